import PyProof.Rows.All
import Wide.All
import OpenK.AllK
import Wide.FinOn
import HandS.ForMost
import HandS.Exc
import HandS.ExcOwn
import HandS.WordsExc
import HandS.IsInst
import HandS.Defaults
import HandS.Walk
import HandS.ExcInit
import HandS.ExcField
import HandS.ClsMeth
import HandS.TryMany
import HandS.Lambda
import HandS.EndTab
import HandS.Sort
import HandS.TryOnly
import HandS.Iter
import HandS.Zip
import HandS.Wide
import HandS.Style
import HandS.Conv
import HandS.Comp
import KE.GoesMore
import KE.GoesZip
import HandS.WideBits
import KE.GoesEnumKw
import HandS.TupAny
import KE.GoesEnum
import KE.KUnpackStar
import HandS.Dict
import HandS.Text
import PyProof.StrOps2
import HandS.SetKeys
import HandS.SetBool
import PyProof.SetRoads
import HandS.DictComp
import KE.DataMinMax
import HandS.Flow
import HandS.TupMul
import HandS.FStr
import HandS.Strs
import PySem.Challenge.RW_weaklook_k20_sayings_that_are_none
set_option Elab.async false
set_option synthInstance.maxSize 4000
set_option synthInstance.maxHeartbeats 0
set_option linter.all false
set_option maxRecDepth 100000
set_option maxHeartbeats 4000000

set_option Elab.async false
set_option linter.all false
set_option maxRecDepth 100000
set_option maxHeartbeats 4000000
namespace Wk
open PySem PySem.Spec PyProof.Rows L2
theorem same_new {H : Hp} {p : Addr} {o : HO} (h : H p = none) : Same H (upd H p o) := fun b x e => by
  rw [upd_ne (ne_of_none e h)]
  exact e
theorem same_mut {H H' : Hp} {p : Addr} {o : HO} (e : Same H H') (h : H p = none) : Same H (upd H' p o) := fun a u ha => by
  rw [upd_ne (ne_of_none ha h)]
  exact e a u ha
theorem same_t {K : PySem.W.Frag} {H H' : Hp} {a : Addr} {xs : List V} (e : Same H H') (h : SqT K H a xs) : SqT K H' a xs := by
  rcases h with (h | ⟨o, h⟩) | h
  · exact .inl (.inl (e _ _ h))
  · exact .inl (.inr ⟨o, e _ _ h⟩)
  · exact .inr h
def Sq (K : PySem.W.Frag) (H : Hp) (a : Addr) (xs : List V) : Prop := SqL K H a xs ∨ SqT K H a xs
theorem Sq.mono {K : PySem.W.Frag} {H H' : Hp} {a : Addr} {xs : List V} (h : Sq K H a xs) (e : Same H H') : Sq K H' a xs := h.imp (fun z => e.seq z) (fun z => same_t e z)
theorem sqL {K : PySem.W.Frag} {H : Hp} {a : Addr} {xs : List V} (h : H a = some (.lst xs)) : Sq K H a xs := .inl (.inl (.inl h))
mutual
theorem Dp.mono {K : PySem.W.Frag} {H H' : Hp} (e : Same H H') : ∀ {v : V} {d : PyData}, Dp K H v d → Dp K H' v d
  | _, _, .non => .non
  | _, _, .bl b => .bl b
  | _, _, .int i => .int i
  | _, _, .str x => .str x
  | _, _, .lst h a => .lst (e.seq h) (DpAll.mono e a)
  | _, _, .tup h a => .tup (same_t e h) (DpAll.mono e a)
theorem DpAll.mono {K : PySem.W.Frag} {H H' : Hp} (e : Same H H') : ∀ {vs : List V} {ds : List PyData}, DpAll K H vs ds → DpAll K H' vs ds
  | _, _, .nil => .nil
  | _, _, .cons h r => .cons (Dp.mono e h) (DpAll.mono e r)
end
theorem DpAll.len {K : PySem.W.Frag} {H : Hp} : ∀ {vs : List V} {ds : List PyData}, DpAll K H vs ds → vs.length = ds.length
  | _, _, .nil => rfl
  | _, _, .cons _ r => congrArg (· + 1) (DpAll.len r)
theorem DpAll.get {K : PySem.W.Frag} {H : Hp} : ∀ {vs : List V} {ds : List PyData} {i : Nat} {v : V}, DpAll K H vs ds → vs[i]? = some v → ∃ d, ds[i]? = some d ∧ Dp K H v d
  | _, _, _, _, .nil, e => by simp at e
  | _, _, 0, _, .cons h _, e => by simp at e; subst e; exact ⟨_, rfl, h⟩
  | _, _, i + 1, v, .cons _ r, e => by
    obtain ⟨d, h1, h2⟩ := DpAll.get (i := i) (v := v) r (by simpa using e)
    exact ⟨d, by simpa using h1, h2⟩
def LstAt (h : Heap) (a : Addr) (xs : List V) : Prop := ∃ (its : List Value) (n : Nat), Vals xs its ∧ h.get? a = some { cls := .type "list", data := .seq its.toArray n }
def DrawR (i g r c : Int) : Prop := 0 ≤ i ∧ 0 ≤ g ∧ 0 ≤ r ∧ r < 1000000007 ∧ 0 ≤ c
def drawL (cl : Addr) (i g r c : Int) : List V := [.ref cl, .int i, .int g, .int r, .int c]
def DrawO (dr cl : Addr) : HO := .ext fun h => ∃ i g r c : Int, DrawR i g r c ∧ LstAt h dr (drawL cl i g r c)
def Drw (H : Hp) (dr : Addr) : Prop := ∃ (cl : Addr) (ns : List Int), H dr = some (DrawO dr cl) ∧ H cl = some (.lst (ns.map V.int))
theorem Drw.mono {H H' : Hp} {dr : Addr} (h : Drw H dr) (e : Same H H') : Drw H' dr := by
  obtain ⟨cl, ns, h1, h2⟩ := h
  exact ⟨cl, ns, e _ _ h1, e _ _ h2⟩
theorem drawO_ok {P : Program} {w : World} {H : Hp} {h : Heap} {dr cl : Addr} {i g r c : Int} (hr : DrawR i g r c) (hl : LstAt h dr (drawL cl i g r c)) : ObjOk P w H h dr (DrawO dr cl) := by
  refine ⟨⟨i, g, r, c, hr, hl⟩, ?_, fun h1 h2 ⟨i, g, r, c, hr, its, n, rv, e⟩ st => ⟨i, g, r, c, hr, its, n, rv, st _ e⟩⟩
  obtain ⟨its, n, rv, e⟩ := hl
  exact ⟨_, e⟩
theorem drawO_at {P : Program} {w : World} {H : Hp} {h : Heap} {dr cl : Addr} (hok : HOk P w H h) (e : H dr = some (DrawO dr cl)) : ∃ i g r c : Int, DrawR i g r c ∧ LstAt h dr (drawL cl i g r c) := by
  have x : ObjOk P w H h dr (.ext fun h => ∃ i g r c : Int, DrawR i g r c ∧ LstAt h dr (drawL cl i g r c)) := hok dr _ e
  exact x.1
theorem recast {P : Program} {w : World} {H : Hp} {h : Heap} {a : Addr} {o o' : HO} (hok : HOk P w H h) (e : H a = some o) (h1 : ∀ x, o ≠ .own x) (h2 : ∀ xs, o ≠ .tup xs) (new : ObjOk P w (upd H a o') h a o') : HOk P w (upd H a o') h := fun b u q => by
  by_cases hb : b = a
  · subst hb
    rw [upd_same] at q
    cases q
    exact new
  · rw [upd_ne hb] at q
    refine (hok b u q).stay (fun c v _ r => r) (fun c r => ?_) (fun c xs r => ?_)
    · rw [upd_ne (fun z => h1 b (Option.some.inj ((z ▸ e).symm.trans r)))]
      exact r
    · rw [upd_ne (fun z => h2 xs (Option.some.inj ((z ▸ e).symm.trans r)))]
      exact r
theorem draw_cast {P : Program} {w : World} {K : PySem.W.Frag} {mg : Str → Option Value} {base : Heap} {CX : CXT} {k : Nat} {f : Addr} {fd : FuncData} {ps : List Str} {sp sp' : Sp} (F : FnOk P w K mg base CX k f fd ps sp) (len : ∀ vs H Q E, sp' vs H Q E → vs.length = ps.length)
    (hx : ∀ outer H H1 s E e s', CX outer H1 s (fun _ _ _ => False) e s' → CX outer H s E e s')
    (h : ∀ vs H Q E, sp' vs H Q E → ∃ dr cl, H dr = some (DrawO dr cl) ∧ ∀ i g r c, DrawR i g r c →
      sp vs (upd H dr (.lst (drawL cl i g r c))) (fun v H' => ∃ i g r c, DrawR i g r c ∧ H' dr = some (.lst (drawL cl i g r c)) ∧ Q v (upd H' dr (DrawO dr cl))) (fun _ _ _ => False)) : FnOk P w K mg base CX k f fd ps sp' := by
  refine ⟨len, fun A outer s H args us vs Q E hr he hb hv hs => ?_⟩
  obtain ⟨dr, cl, e, go⟩ := h vs H Q E hs
  obtain ⟨i, g, r, c, hR, hL⟩ := drawO_at he.hok e
  have nf : ∀ b, H b = none → b ≠ dr := fun b n z => by
    rw [z, e] at n
    cases n
  have e1 : HOk P w (upd H dr (.lst (drawL cl i g r c))) s.heap := recast he.hok e (fun x z => by unfold DrawO at z; cases z) (fun x z => by unfold DrawO at z; cases z) ⟨by show 5 ≤ sizeLine; decide, hL⟩
  have he1 : Env0 P w K mg base A outer s (upd H dr (.lst (drawL cl i g r c))) :=
    ⟨he.frames, he.mod, fun b o q => ⟨(he.bs b o q).1, by rw [upd_ne (nf b (he.bs b o q).2)]; exact (he.bs b o q).2⟩, he.bsz, he.funs, fun b q => by rw [upd_ne (nf b (he.frf b q))]; exact he.frf b q, e1, he.bare⟩
  refine codeAny_mono (F.run A outer s _ args us vs _ _ hr he1 hb hv (go i g r c hR)) fun rr s' hq => ?_
  cases rr with
  | error er => exact hx outer H _ s E er s' hq
  | ok fl =>
    cases fl with
    | next => exact hq
    | brk => exact hq
    | cont => exact hq
    | ret u =>
      obtain ⟨v, H', os, bare, un, hok, rv, i2, g2, r2, c2, hR2, e2, q⟩ := hq
      have eA : ∀ b o, H b = some o → (∀ φ, o ≠ .ext φ) → b ≠ dr := fun b o q z y => by
        rw [y, e] at q
        exact z _ (Option.some.inj q).symm
      refine ⟨v, upd H' dr (DrawO dr cl), os, bare, ⟨fun b o q n hb hx => un.keep b o q (by rw [upd_ne (nf b n)]; exact n) hb hx, fun b o q n hb hx => un.slot b o q (by rw [upd_ne (nf b n)]; exact n) hb hx,
        fun b o q n hx => by rw [upd_ne (nf b n)]; exact un.free b o q (by rw [upd_ne (nf b n)]; exact n) hx, un.there, fun b xs q => ?_, fun b o u q => ?_, fun b ps q => ?_⟩, ?_, rv, q⟩
      · have hb := eA b _ q (fun φ z => by cases z)
        rw [upd_ne hb]
        exact un.tups b xs (by rw [upd_ne hb]; exact q)
      · have hb := eA b _ q (fun φ z => by cases z)
        rw [upd_ne hb]
        exact un.frzs b o u (by rw [upd_ne hb]; exact q)
      · have hb := eA b _ q (fun φ z => by cases z)
        rw [upd_ne hb]
        exact un.tbls b ps (by rw [upd_ne hb]; exact q)
      · refine recast hok e2 (fun x z => by cases z) (fun x z => by cases z) (drawO_ok hR2 ?_)
        exact (show ObjOk P w H' s'.heap dr (.lst (drawL cl i2 g2 r2 c2)) from hok dr _ e2).2
theorem draw_made {P : Program} {w : World} {K : PySem.W.Frag} {mg : Str → Option Value} {base : Heap} {CX : CXT} {k : Nat} {f : Addr} {fd : FuncData} {ps : List Str} {sp sp' : Sp} (F : FnOk P w K mg base CX k f fd ps sp) (len : ∀ vs H Q E, sp' vs H Q E → vs.length = ps.length)
    (h : ∀ vs H Q E, sp' vs H Q E → sp vs H (fun v H' => ∃ dr cl i g r c, v = .ref dr ∧ H dr = none ∧ DrawR i g r c ∧ H' dr = some (.lst (drawL cl i g r c)) ∧ Q v (upd H' dr (DrawO dr cl))) E) : FnOk P w K mg base CX k f fd ps sp' := by
  refine ⟨len, fun A outer s H args us vs Q E hr he hb hv hs => ?_⟩
  refine codeAny_mono (F.run A outer s H args us vs _ _ hr he hb hv (h vs H Q E hs)) fun rr s' hq => ?_
  cases rr with
  | error er => exact hq
  | ok fl =>
    cases fl with
    | next => exact hq
    | brk => exact hq
    | cont => exact hq
    | ret u =>
      obtain ⟨v, H', os, bare, un, hok, rv, dr, cl, i2, g2, r2, c2, ev, n0, hR2, e2, q⟩ := hq
      have nf : ∀ b o, s.heap.get? b = some o → H b = none → b ≠ dr := fun b o q n z => by
        have y := un.free b o q n (by simp)
        rw [z, e2] at y
        cases y
      have nd : ∀ b o, H b = some o → b ≠ dr := fun b o q => ne_of_none q n0
      refine ⟨v, upd H' dr (DrawO dr cl), os, bare, ⟨un.keep, un.slot, fun b o q n hx => by rw [upd_ne (nf b o q n)]; exact un.free b o q n hx, un.there, fun b xs q => ?_, fun b o u q => ?_, fun b ps q => ?_⟩, ?_, rv, q⟩
      · rw [upd_ne (nd b _ q)]
        exact un.tups b xs q
      · rw [upd_ne (nd b _ q)]
        exact un.frzs b o u q
      · rw [upd_ne (nd b _ q)]
        exact un.tbls b ps q
      · refine recast hok e2 (fun x z => by cases z) (fun x z => by cases z) (drawO_ok hR2 ?_)
        exact (show ObjOk P w H' s'.heap dr (.lst (drawL cl i2 g2 r2 c2)) from hok dr _ e2).2
structure FnE (K : PySem.W.Frag) (mg : Str → Option Value) (x : Str) (st : Stmt) (ps : List Str) where
  a : Addr
  fd : FuncData
  F : Fun K x x st a fd
  b : Binds K fd ps []
  g : mg x = some (.ref a)
theorem cx_false {P : Program} {w : World} {outer : List Env} {H H1 : Hp} {s : Shared} {E : XK} {e : Value} {s' : Shared} (h : L2.CX P w outer H1 s (fun _ _ _ => False) e s') : L2.CX P w outer H s E e s' := by
  obtain ⟨_, _, _, _, _, _, _, _, _, _, _, _, z⟩ := h
  exact z.elim
section
variable {X : Cx} {tg : Expr}
def rSeq (K : PySem.W.Frag) (x : V) (H : Hp) (R : It → Hp → Prop) : Prop := ∃ a, x = .ref a ∧ (((∃ xs, SqL K H a xs) ∧ R (Itl K a) H) ∨ ((∃ xs, SqT K H a xs) ∧ R (Itt K a) H))
def iSeq (K : PySem.W.Frag) (tl : TE) : TI := fun σ H R => tl σ H fun x H1 => rSeq K x H1 R
theorem pi_seq {l : Expr} {tl : TE} (hl : PE X l tl) : PI X tg l (iSeq X.K tl) := by
  refine ⟨fun pins s σ H R I h => ?_⟩
  refine thn (hl.run pins s σ H _ I h) fun v s1 ⟨x, H1, I1, r1, q1⟩ => ?_
  obtain ⟨a, e, q1⟩ := q1
  subst e
  cases r1
  rcases q1 with ⟨⟨xs, hq⟩, q⟩ | ⟨⟨xs, hq⟩, q⟩
  · obtain ⟨its, rv, p, hz⟩ := I1.list hq
    refine wpAny_pyIter_list p.isList ?_
    refine ⟨s1.heap.objs.size, [s1.heap.objs.size], _, _, H1, rfl, I1.kept (t' := s1.toks) fun b o e => Heap.get?_push_of_some _ e, turn_list a _, ⟨_, Heap.get?_push_size _ rfl, rfl, rfl⟩, fun b hb => ?_, q⟩
    have e : b = s1.heap.objs.size := by simpa using hb
    subst e
    exact I1.fpOk (Nat.le_refl _) (I1.hok.fresh (Nat.le_refl _))
  · obtain ⟨its, rv, p, hz⟩ := I1.tuple hq
    refine wpAny_pyIter_tuple (show s1.heap.IsTuple a its.toArray from p) ?_
    refine ⟨s1.heap.objs.size, [s1.heap.objs.size], _, _, H1, rfl, I1.kept (t' := s1.toks) fun b o e => Heap.get?_push_of_some _ e, turn_tuple a _, ⟨_, Heap.get?_push_size _ rfl, rfl, rfl⟩, fun b hb => ?_, q⟩
    have e : b = s1.heap.objs.size := by simpa using hb
    subst e
    exact I1.fpOk (Nat.le_refl _) (I1.hok.fresh (Nat.le_refl _))
def rIxQ (K : PySem.W.Frag) : R2 := fun x y H Q => ∃ p i xs v, x = .ref p ∧ y = .int i ∧ Sq K H p xs ∧ atI xs i = some v ∧ Q v H
theorem ix_Q : IxR X (rIxQ X.K) := fun vl sl pins s σ H x y v u Q I rx ry h => by
  obtain ⟨p, i, xs, z, rfl, rfl, e | e, a, q⟩ := h
  · exact ix_list vl sl pins s σ H _ _ v u Q I rx ry ⟨p, xs, i, z, rfl, rfl, e, a, q⟩
  · exact ix_tup vl sl pins s σ H _ _ v u Q I rx ry ⟨p, xs, i, z, rfl, rfl, e, a, q⟩
def rLenQ (K : PySem.W.Frag) : List V → Hp → VK → Prop := fun xs H Q => ∃ p ys, xs = [.ref p] ∧ Sq K H p ys ∧ Q (.int ys.length) H
theorem call_lenQ : CallR X (.builtin "len") (rLenQ X.K) := fun pins s σ H xs us Q I r h => by
  obtain ⟨p, ys, rfl, e, q⟩ := h
  exact call_len_seq pins s σ H _ us Q I r ⟨p, ys, rfl, e, q⟩
def rListQ (K : PySem.W.Frag) : List V → Hp → VK → Prop := fun xs H Q => ∃ p ys, xs = [.ref p] ∧ Sq K H p ys ∧ ∀ l, H l = none → Q (.ref l) (upd H l (.lst ys))
theorem call_listQ : CallR X (.type "list") (rListQ X.K) := fun pins s σ H xs us Q I r h => by
  obtain ⟨p, ys, rfl, e, q⟩ := h
  exact call_list_of pins s σ H _ us Q I r ⟨p, ys, rfl, e, q⟩
def rTupQ (K : PySem.W.Frag) : List V → Hp → VK → Prop := fun xs H Q => ∃ p ys, xs = [.ref p] ∧ Sq K H p ys ∧ ∀ l H', L2.Same H H' → SqT K H' l ys → Q (.ref l) H'
theorem call_tupQ : CallR X (.type "tuple") (rTupQ X.K) := fun pins s σ H xs us Q I r h => by
  obtain ⟨p, ys, rfl, e, q⟩ := h
  rcases e with e | e
  · exact call_tuple_of pins s σ H _ us Q I r ⟨p, ys, rfl, .inl ⟨e, fun l hl => q l _ (same_new hl) (.inl (.inl upd_same))⟩⟩
  · exact call_tuple_of pins s σ H _ us Q I r ⟨p, ys, rfl, .inr ⟨e, q p H (L2.Same.refl H) e⟩⟩
def rInQ (K : PySem.W.Frag) (neg : Bool) : R2 := fun x y H Q => ∃ p xs, y = .ref p ∧ Sq K H p xs ∧ flatV x = true ∧ xs.all flatV = true ∧ Q (.bl (if neg then !inV x xs else inV x xs)) H
theorem op_inQ : OpR X (compareOp .In) (rInQ X.K false) := fun pins s σ H x y v u Q I rx ry h => by
  obtain ⟨p, xs, rfl, e, a, b, q⟩ := h
  exact op_in_seq pins s σ H _ _ v u Q I rx ry ⟨p, xs, rfl, e, a, b, q⟩
theorem op_notInQ : OpR X (compareOp .NotIn) (rInQ X.K true) := fun pins s σ H x y v u Q I rx ry h => by
  obtain ⟨p, xs, rfl, e, a, b, q⟩ := h
  exact op_notIn_seq pins s σ H _ _ v u Q I rx ry ⟨p, xs, rfl, e, a, b, q⟩
def rIsN2 : R2 := fun x y H Q => y = .non ∧ Q (.bl (decide (x = .non))) H
theorem op_isN2 : OpR X (compareOp .Is) rIsN2 := op_isN
end
section
variable {X : Cx} {tg : Expr}
theorem pi_seqK (K : PySem.W.Frag) (e : X.K = K) {l : Expr} {tl : TE} (hl : PE X l tl) : PI X tg l (iSeq K tl) := by subst e; exact pi_seq hl
theorem ix_QK (K : PySem.W.Frag) (e : X.K = K) : IxR X (rIxQ K) := by subst e; exact ix_Q
theorem call_lenQK (K : PySem.W.Frag) (e : X.K = K) : CallR X (.builtin "len") (rLenQ K) := by subst e; exact call_lenQ
theorem call_listQK (K : PySem.W.Frag) (e : X.K = K) : CallR X (.type "list") (rListQ K) := by subst e; exact call_listQ
theorem call_tupQK (K : PySem.W.Frag) (e : X.K = K) : CallR X (.type "tuple") (rTupQ K) := by subst e; exact call_tupQ
theorem op_inQK (K : PySem.W.Frag) (e : X.K = K) : OpR X (compareOp .In) (rInQ K false) := by subst e; exact op_inQ
theorem op_notInQK (K : PySem.W.Frag) (e : X.K = K) : OpR X (compareOp .NotIn) (rInQ K true) := by subst e; exact op_notInQ
theorem call_isiK2 (K : PySem.W.Frag) (e : X.K = K) : CallR X (.builtin "isinstance") (rIsi K) := by subst e; exact call_isi
theorem call_isiTK (K : PySem.W.Frag) (e : X.K = K) : CallR X (.builtin "isinstance") (rIsiT K) := by subst e; exact call_isiT
theorem cr_allK (K : PySem.W.Frag) (e : X.K = K) (hc : X.calm = true) : CallR X (.builtin "all") (rAll K) := by subst e; exact cr_all hc
theorem cr_anyK (K : PySem.W.Frag) (e : X.K = K) (hc : X.calm = true) : CallR X (.builtin "any") (rAny K) := by subst e; exact cr_any hc
theorem pg_tupK (K : PySem.W.Frag) (e : X.K = K) {es : List Expr} {k : Nat} {t : TGs} {n : Nat} {pos : Pos} (hc : X.calm = true) (h : PGs X es t)
    (hn : (assignEach es X.env).length = n := by rfl) (hst : (assignEach es X.env).findIdx? (·.1) = none := by rfl) : PG X (.Tuple es k pos) (gTup K n t) := by subst e; exact pg_tup hc h hn hst
theorem sl_listK (K : PySem.W.Frag) (e : X.K = K) : SlR X (rSlL K) := by subst e; exact sl_list
end
def primesL : List Int := [3, 5, 7, 11, 13, 17, 19, 23, 29, 31, 37, 41, 43, 47, 53, 59, 61]
section
variable {X : Cx}
theorem pe_powC {i j n : Int} {k1 k2 : Nat} {p1 p2 pos : Pos} (h : i ^ j.toNat = n) (hc : 0 ≤ j ∧ j ≤ 1000000 ∧ i.natAbs < 2 ^ 64) : PE X (.BinOp (.Constant (.int i) k1 p1) .Pow (.Constant (.int j) k2 p2) pos) (tC (.int n)) :=
  ⟨fun pins s σ H Q I q => (pe_op op_pow pe_int pe_int).run pins s σ H Q I ⟨i, j, rfl, rfl, hc, by show Q (.int (i ^ j.toNat)) H; rw [h]; exact q⟩⟩
theorem pe_globI {x : Str} {i : Int} {pos : Pos} (hg : Gl X x) (hm : ∃ t, X.mg x = some (.int i t)) (hd : (x == ("__debug__" : Str)) = false := by decide) : PE X (.Name x pos) (tC (.int i)) := by
  obtain ⟨t, hm⟩ := hm
  exact pe_glob hg hm ⟨t, rfl⟩ hd
theorem pe_globS {x z : Str} {pos : Pos} (hg : Gl X x) (hm : ∃ t, X.mg x = some (.str z t)) (hd : (x == ("__debug__" : Str)) = false := by decide) : PE X (.Name x pos) (tC (.str z)) := by
  obtain ⟨t, hm⟩ := hm
  exact pe_glob hg hm ⟨t, rfl⟩ hd
end
theorem absV_rel : ∀ {u : Value} {v : V}, absV u = some v → RelV v u
  | .none, _, h => by cases h; rfl
  | .bool _, _, h => by cases h; rfl
  | .int _ t, _, h => by cases h; exact ⟨t, rfl⟩
  | .str _ t, _, h => by cases h; exact ⟨t, rfl⟩
  | .bytes _ t, _, h => by cases h; exact ⟨t, rfl⟩
  | .float _ t, _, h => by cases h; exact ⟨t, rfl⟩
  | .ref _, _, h => by cases h; rfl
  | .type _, _, h => by cases h; rfl
def absL : List Value → Option (List V)
  | [] => some []
  | u :: us => (absV u).bind fun v => (absL us).map fun vs => v :: vs
theorem absL_vals : ∀ {us : List Value} {vs : List V}, absL us = some vs → Vals vs us
  | [], vs, h => by
    cases h
    exact .nil
  | u :: us, vs, h => by
    unfold absL at h
    cases e : absV u with
    | none => rw [e] at h; cases h
    | some v =>
      rw [e] at h
      cases e2 : absL us with
      | none => rw [e2] at h; cases h
      | some ws =>
        rw [e2] at h
        cases h
        exact .cons (absV_rel e) (absL_vals e2)
theorem sqT_K {K : PySem.W.Frag} {H : Hp} {a : Addr} {o : Obj} {it : Array Value} {n : Nat} {xs : List V} (hl : K.lookup a = some o) (hc : o.cls = .type "tuple") (hd : o.data = .seq it n) (hv : absL it.toList = some xs) (hz : xs.length ≤ 100000) : SqT K H a xs := by
  refine .inr ⟨o, it, n, hl, hc, hd, ?_, absL_vals hv⟩
  have e : xs.length = it.toList.length := (absL_vals hv).length
  have e2 : it.toList.length = it.size := Array.length_toList
  exact Nat.le_trans (by omega : it.size ≤ 100000) (by decide)
theorem cx_no {P : Program} {w : World} {outer : List Env} {H : Hp} {s : Shared} {e : Value} {s' : Shared} (h : L2.CX P w outer H s (fun _ _ _ => False) e s') : False := by
  obtain ⟨_, _, _, _, _, _, _, _, _, _, _, _, z⟩ := h
  exact z.elim
def okD : Nat → PyData → Prop
  | 0, _ => False
  | n + 1, .list ds => ds.length ≤ 100000 ∧ ∀ d ∈ ds, okD n d
  | n + 1, .tuple ds => ds.length ≤ 100000 ∧ ∀ d ∈ ds, okD n d
  | _ + 1, .dict _ => False
  | _ + 1, _ => True
theorem tyL {K : PySem.W.Frag} {H : Hp} {a : Addr} {xs : List V} (h : SqL K H a xs) : TyX K H (.ref a) (.type "list") := by
  rcases h with (h | ⟨o, h⟩) | ⟨o, its, n, hk, hc, _⟩
  · exact .base (.lst h)
  · exact .base (.frz h)
  · exact .kList hk hc
theorem tyT {K : PySem.W.Frag} {H : Hp} {a : Addr} {xs : List V} (h : SqT K H a xs) : TyX K H (.ref a) (.type "tuple") := by
  rcases h with (h | ⟨o, h⟩) | ⟨o, its, n, hk, hc, _⟩
  · exact .base (.tup h)
  · exact .fTuple h
  · exact .kTuple hk hc
theorem tyX_mono {K : PySem.W.Frag} {H H' : Hp} {x : V} {t : Value} (e : L2.Same H H') (h : TyX K H x t) : TyX K H' x t := by
  cases h with
  | base b =>
    refine .base ?_
    cases b with
    | non => exact .non
    | bl y => exact .bl y
    | int y => exact .int y
    | str y => exact .str y
    | flt y => exact .flt y
    | lst z => exact .lst (e _ _ z)
    | frz z => exact .frz (e _ _ z)
    | tup z => exact .tup (e _ _ z)
    | dK z => exact .dK (e _ _ z)
    | dT z => exact .dT (e _ _ z)
    | ins z cl ha hn htk hm => exact .ins (e _ _ z) cl ha hn htk hm
  | byt b => exact .byt b
  | set z => exact .set (e _ _ z)
  | kList z c => exact .kList z c
  | kTuple z c => exact .kTuple z c
  | kDict z c => exact .kDict z c
  | fTuple z => exact .fTuple (e _ _ z)
  | fDict z => exact .fDict (e _ _ z)
theorem kt_NoneType_str {K : PySem.W.Frag} : PySem.W.kitOne K (.type "NoneType") (.type "str") = some false := kit_ty (by decide +kernel)
theorem kt_NoneType_tuple {K : PySem.W.Frag} : PySem.W.kitOne K (.type "NoneType") (.type "tuple") = some false := kit_ty (by decide +kernel)
theorem kt_bool_bool {K : PySem.W.Frag} : PySem.W.kitOne K (.type "bool") (.type "bool") = some true := kit_ty (by decide +kernel)
theorem kt_bool_str {K : PySem.W.Frag} : PySem.W.kitOne K (.type "bool") (.type "str") = some false := kit_ty (by decide +kernel)
theorem kt_bool_tuple {K : PySem.W.Frag} : PySem.W.kitOne K (.type "bool") (.type "tuple") = some false := kit_ty (by decide +kernel)
theorem kt_int_bool {K : PySem.W.Frag} : PySem.W.kitOne K (.type "int") (.type "bool") = some false := kit_ty (by decide +kernel)
theorem kt_int_int {K : PySem.W.Frag} : PySem.W.kitOne K (.type "int") (.type "int") = some true := kit_ty (by decide +kernel)
theorem kt_int_str {K : PySem.W.Frag} : PySem.W.kitOne K (.type "int") (.type "str") = some false := kit_ty (by decide +kernel)
theorem kt_int_tuple {K : PySem.W.Frag} : PySem.W.kitOne K (.type "int") (.type "tuple") = some false := kit_ty (by decide +kernel)
theorem kt_int_is {K : PySem.W.Frag} : PySem.W.kitAny K (.type "int") [.type "int", .type "str"] = some true := kitAny_cons kt_int_int (fun h => nomatch h) (fun _ => rfl)
theorem kt_str_bool {K : PySem.W.Frag} : PySem.W.kitOne K (.type "str") (.type "bool") = some false := kit_ty (by decide +kernel)
theorem kt_str_int {K : PySem.W.Frag} : PySem.W.kitOne K (.type "str") (.type "int") = some false := kit_ty (by decide +kernel)
theorem kt_str_str {K : PySem.W.Frag} : PySem.W.kitOne K (.type "str") (.type "str") = some true := kit_ty (by decide +kernel)
theorem kt_str_tuple {K : PySem.W.Frag} : PySem.W.kitOne K (.type "str") (.type "tuple") = some false := kit_ty (by decide +kernel)
theorem kt_str_is {K : PySem.W.Frag} : PySem.W.kitAny K (.type "str") [.type "int", .type "str"] = some true := kitAny_cons kt_str_int (fun _ => kitAny_cons kt_str_str (fun h => nomatch h) (fun _ => rfl)) (fun z => rfl)
theorem kt_list_bool {K : PySem.W.Frag} : PySem.W.kitOne K (.type "list") (.type "bool") = some false := kit_ty (by decide +kernel)
theorem kt_list_int {K : PySem.W.Frag} : PySem.W.kitOne K (.type "list") (.type "int") = some false := kit_ty (by decide +kernel)
theorem kt_list_str {K : PySem.W.Frag} : PySem.W.kitOne K (.type "list") (.type "str") = some false := kit_ty (by decide +kernel)
theorem kt_list_list {K : PySem.W.Frag} : PySem.W.kitOne K (.type "list") (.type "list") = some true := kit_ty (by decide +kernel)
theorem kt_list_tuple {K : PySem.W.Frag} : PySem.W.kitOne K (.type "list") (.type "tuple") = some false := kit_ty (by decide +kernel)
theorem kt_list_is {K : PySem.W.Frag} : PySem.W.kitAny K (.type "list") [.type "int", .type "str"] = some false := kitAny_cons kt_list_int (fun _ => kitAny_cons kt_list_str (fun _ => kitAny_nil) (fun z => z)) (fun z => z)
theorem kt_tuple_bool {K : PySem.W.Frag} : PySem.W.kitOne K (.type "tuple") (.type "bool") = some false := kit_ty (by decide +kernel)
theorem kt_tuple_int {K : PySem.W.Frag} : PySem.W.kitOne K (.type "tuple") (.type "int") = some false := kit_ty (by decide +kernel)
theorem kt_tuple_str {K : PySem.W.Frag} : PySem.W.kitOne K (.type "tuple") (.type "str") = some false := kit_ty (by decide +kernel)
theorem kt_tuple_list {K : PySem.W.Frag} : PySem.W.kitOne K (.type "tuple") (.type "list") = some false := kit_ty (by decide +kernel)
theorem kt_tuple_tuple {K : PySem.W.Frag} : PySem.W.kitOne K (.type "tuple") (.type "tuple") = some true := kit_ty (by decide +kernel)
theorem kt_tuple_is {K : PySem.W.Frag} : PySem.W.kitAny K (.type "tuple") [.type "int", .type "str"] = some false := kitAny_cons kt_tuple_int (fun _ => kitAny_cons kt_tuple_str (fun _ => kitAny_nil) (fun z => z)) (fun z => z)
theorem atI_of {xs : List V} {i : Nat} {r : Int} {v : V} (h : xs[i]? = some v) (e : r = (i : Int)) : atI xs r = some v := by rw [e]; exact atI_nat h
theorem dp_bools {K : PySem.W.Frag} {H : Hp} {b : Bool} : ∀ {n : Nat} {ys : List V}, DpAll K H ys (List.replicate n (.bool b)) → ys = List.map V.bl (List.replicate n b)
  | 0, _, .nil => rfl
  | n + 1, _, .cons h r => by
    cases h
    rw [dp_bools (n := n) r]
    rfl
theorem all_rep (n : Nat) : (List.replicate n true).all id = true := by simp
theorem DpAll.get2 {K : PySem.W.Frag} {H : Hp} {vs : List V} {ds : List PyData} {i : Nat} {d : PyData} (h : DpAll K H vs ds) (e : ds[i]? = some d) : ∃ v, vs[i]? = some v ∧ Dp K H v d := by
  have hi : i < ds.length := (List.getElem?_eq_some_iff.mp e).1
  rw [← DpAll.len h] at hi
  obtain ⟨d', e', q⟩ := DpAll.get h (List.getElem?_eq_getElem hi)
  rw [e] at e'
  cases e'
  exact ⟨_, List.getElem?_eq_getElem hi, q⟩
theorem inV_int {n : Int} : ∀ (ns : List Int), inV (.int n) (ns.map V.int) = decide (n ∈ ns)
  | [] => by simp [inV]
  | m :: ns => by
    have ih := inV_int (n := n) ns
    unfold inV at ih ⊢
    rw [List.map_cons, List.any_cons, ih]
    show ((m == n) || decide (n ∈ ns)) = decide (n ∈ m :: ns)
    by_cases h : n = m
    · subst h
      simp
    · have h2 : (m == n) = false := by simpa using fun z => h z.symm
      rw [h2, Bool.false_or]
      simp [h]
def FL (J : It) (g : TG) (tb : TS) (D : Ends) (σ : L2.St) (H : Hp) : Prop := ∃ W : Nat → Nat → L2.St → Hp → Prop, (∃ m, W 0 m σ H) ∧ ∀ i m σ H, W i m σ H →
  (J.stop i H ∧ D.nx σ H) ∨ (J.go i H ∧ ∃ N : L2.St → Hp → Prop, (∀ σ' H', N σ' H' → ∃ m', m' < m ∧ W (i + 1) m' σ' H') ∧ ∀ x H', J.yld i H x H' → g x σ H' fun σ2 H2 => tb { D with nx := N, ct := N, bk := D.nx } σ2 H2)
def LC (J : It) (g : TG) (tt : TT) (te : TE) (vs : List Nat) (σ : L2.St) (Q : VK) (H1 : Hp) : Prop := ∀ D, H1 D = none → ∃ W : Nat → Nat → Hp → Prop, (∃ m, W 0 m (upd H1 D (.lst []))) ∧ ∀ i m H, W i m H →
  (J.stop i H ∧ Q (.ref D) H) ∨ (J.go i H ∧ ∃ Nx : Hp → Prop, (∀ H', Nx H' → ∃ m', m' < m ∧ W (i + 1) m' H') ∧ ∀ x H', J.yld i H x H' → g x (wipe σ vs) H' fun σ2 H2 => wipe σ2 vs = wipe σ vs ∧ tt σ2 H2 fun b H3 =>
    if b = true then te σ2 H3 fun y H4 => ∃ acc, H4 D = some (.lst acc) ∧ acc.length < sizeLine ∧ Nx (upd H4 D (.lst (acc ++ [y]))) else Nx H3)
def MkO (c : List V → HO) (xs : List V) (H : Hp) (Q : VK) : Prop := xs.length ≤ sizeLine ∧ ∀ p, H p = none → Q (.ref p) (upd H p (c xs))
def rRng1 (vs : List V) (H : Hp) (R : It → Hp → Prop) : Prop := ∃ j : Int, vs = [.int j] ∧ -(2 ^ 62) ≤ j ∧ j < 2 ^ 62 ∧ R (Itr 0 j.toNat) H
section
variable {σ : L2.St} {H H' : Hp} {Q : VK} {ta tb te : TE} {t u : TT} {a b c : L2.St → Hp → Prop} {rt : VK} {s1 s2 : TS} {D : Ends} {i : Nat} {v x y : V} {K : PySem.W.Frag} {tA tr : TA} {g : TG} {wi : TI} {R : It → Hp → Prop}
theorem g_start {N : List Str} {vs : List V} (e : L2.start N vs = σ) (h : s1 D σ H) : s1 D (L2.start N vs) H := by
  rw [e]
  exact h
theorem g_seqN (h : ∀ N : L2.St → Hp → Prop, (∀ σ H, s2 D σ H → N σ H) → s1 ⟨N, D.rt, D.bk, D.ct⟩ σ H) : tSeq s1 s2 D σ H := h _ fun _ _ q => q
theorem g_useN {N M : L2.St → Hp → Prop} (h : ∀ σ H, M σ H → N σ H) (q : M σ H) : N σ H := h σ H q
theorem g_nx (h : a σ H) : Ends.nx ⟨a, rt, b, c⟩ σ H := h
theorem g_rt (h : rt v H) : Ends.rt ⟨a, rt, b, c⟩ v H := h
theorem g_next (h : D.nx σ H) : tNext D σ H := h
theorem g_ifS (h : t σ H fun b H1 => if b = true then s1 D σ H1 else s2 D σ H1) : tIfS t s1 s2 D σ H := h
theorem g_ret (h : te σ H fun v H => D.rt v H) : tRet te D σ H := h
theorem g_asg (h : te σ H fun x H1 => D.nx (σ.set i (some x)) H1) : tAsg te (gName i) D σ H := h
theorem g_asgS {ts : TSet} (h : te σ H fun x H1 => ta σ H1 fun o H2 => tb σ H2 fun i H3 => ts o i x H3 fun H4 => D.nx σ H4) : tAsg te (gSub ta tb ts) D σ H := h
theorem g_var (e : σ[i]? = some (some v)) (h : Q v H) : tVar i σ H Q := ⟨v, e, h⟩
theorem g_c (h : Q v H) : tC v σ H Q := h
theorem g_op {r : R2} (h : ta σ H fun x H1 => tb σ H1 fun y H2 => r x y H2 Q) : tOp r ta tb σ H Q := h
theorem g_I0 {g : Int → Int → V} {i j : Int} (h : Q (g i j) H) : rI0 g (.int i) (.int j) H Q := ⟨i, j, rfl, rfl, h⟩
theorem g_I {C : Int → Int → Prop} {g : Int → Int → V} {i j : Int} (hc : C i j) (h : Q (g i j) H) : rI C g (.int i) (.int j) H Q := ⟨i, j, rfl, rfl, hc, h⟩
theorem g_test {q : Bool → Hp → Prop} (h : te σ H fun x H1 => ∃ k, x = .bl k ∧ q k H1) : tTest te σ H q := h
theorem g_B {q : Bool → Hp → Prop} (h : te σ H fun x H1 => ∃ k, x = .bl k ∧ q k H1) : tB te σ H q := h
theorem g_bl {p : Bool → Prop} {k : Bool} (h : p k) : ∃ k', V.bl k = .bl k' ∧ p k' := ⟨k, rfl, h⟩
theorem g_and {q : Bool → Hp → Prop} (h : t σ H fun c H1 => if c = true then u σ H1 q else q false H1) : tAnd t u σ H q := h
theorem g_or {q : Bool → Hp → Prop} (h : t σ H fun c H1 => if c = true then q true H1 else u σ H1 q) : tOr t u σ H q := h
theorem g_andV (h : ta σ H fun x H1 => ∃ c, x = .bl c ∧ if c = true then tb σ H1 Q else Q (.bl false) H1) : tAndV ta tb σ H Q := h
theorem g_iteD {p : Prop} [Decidable p] {A B : Prop} (h1 : p → A) (h2 : ¬ p → B) : if decide p = true then A else B := by
  by_cases h : p
  · rw [if_pos (decide_eq_true h)]
    exact h1 h
  · rw [if_neg (fun z => h (of_decide_eq_true z))]
    exact h2 h
theorem g_iteND {p : Prop} [Decidable p] {A B : Prop} (h1 : ¬ p → A) (h2 : p → B) : if (!decide p) = true then A else B := by
  by_cases h : p
  · rw [decide_eq_true h, if_neg (by decide)]
    exact h2 h
  · rw [decide_eq_false h, if_pos (by decide)]
    exact h1 h
theorem g_iteY {p : Prop} [Decidable p] {A B : Prop} (e : p) (h : A) : if decide p = true then A else B := by rw [if_pos (decide_eq_true e)]; exact h
theorem g_iteN {p : Prop} [Decidable p] {A B : Prop} (e : ¬ p) (h : B) : if decide p = true then A else B := by rw [if_neg (fun z => e (of_decide_eq_true z))]; exact h
theorem g_iteNY {p : Prop} [Decidable p] {A B : Prop} (e : p) (h : B) : if (!decide p) = true then A else B := by rw [decide_eq_true e, if_neg (by decide)]; exact h
theorem g_iteNN {p : Prop} [Decidable p] {A B : Prop} (e : ¬ p) (h : A) : if (!decide p) = true then A else B := by rw [decide_eq_false e, if_pos (by decide)]; exact h
theorem g_iteT {A B : Prop} (h : A) : if true = true then A else B := by rw [if_pos rfl]; exact h
theorem g_iteF {A B : Prop} (h : B) : if false = true then A else B := by rw [if_neg Bool.false_ne_true]; exact h
theorem g_iteNT {A B : Prop} (h : B) : if (!true) = true then A else B := by rw [if_neg (by decide)]; exact h
theorem g_iteNF {A B : Prop} (h : A) : if (!false) = true then A else B := by rw [if_pos (by decide)]; exact h
theorem g_cb {r : List V → Hp → VK → Prop} (h : tA σ H fun vs H1 => r vs H1 Q) : tCB r tA σ H Q := h
theorem g_nil {q : List V → Hp → Prop} (h : q [] H) : tNil σ H q := h
theorem g_cons {q : List V → Hp → Prop} (h : ta σ H fun x H1 => tr σ H1 fun xs H2 => q (x :: xs) H2) : tCons ta tr σ H q := h
theorem g_call {sp : Sp} {E : XK} (h : tA σ H fun vs H1 => sp vs H1 Q E) : tCall sp [] E tA σ H Q := by
  simp only [tCall, List.append_nil]
  exact h
theorem g_tup (h : tA σ H fun xs H1 => MkO HO.tup xs H1 Q) : tTup tA σ H Q := h
theorem g_lst (h : tA σ H fun xs H1 => MkO HO.lst xs H1 Q) : tLst tA σ H Q := h
theorem g_mk {c : List V → HO} {xs : List V} (hl : xs.length ≤ 100000) (h : ∀ p H', H p = none → L2.Same H H' → H' p = some (c xs) → Q (.ref p) H') : MkO c xs H Q :=
  ⟨Nat.le_trans hl (by decide), fun p hp => h p _ hp (same_new hp) upd_same⟩
theorem g_ixQ {p : Addr} {i : Int} {xs : List V} (h : Sq K H p xs) (ha : atI xs i = some v) (q : Q v H) : rIxQ K (.ref p) (.int i) H Q := ⟨p, i, xs, v, rfl, rfl, h, ha, q⟩
theorem g_lenQ {p : Addr} {xs : List V} (h : Sq K H p xs) (q : Q (.int xs.length) H) : rLenQ K [.ref p] H Q := ⟨p, xs, rfl, h, q⟩
theorem g_listQ {p : Addr} {xs : List V} (h : Sq K H p xs) (q : ∀ l H', H l = none → L2.Same H H' → H' l = some (.lst xs) → Q (.ref l) H') : rListQ K [.ref p] H Q := ⟨p, xs, rfl, h, fun l hl => q l _ hl (same_new hl) upd_same⟩
theorem g_tupQ {p : Addr} {xs : List V} (h : Sq K H p xs) (q : ∀ l H', L2.Same H H' → SqT K H' l xs → Q (.ref l) H') : rTupQ K [.ref p] H Q := ⟨p, xs, rfl, h, q⟩
theorem g_setL {p : Addr} {k : Int} {j : Nat} {xs : List V} {q : Hp → Prop} (h : H p = some (.lst xs)) (hj : ixN xs.length k = some j) (hq : q (upd H p (.lst (xs.set j v)))) : rSetL (.ref p) (.int k) v H q := ⟨p, xs, k, j, rfl, rfl, h, hj, hq⟩
theorem g_eq (h : scal x y = true) (q : Q (.bl (decide (x = y))) H) : rEq x y H Q := ⟨h, q⟩
theorem g_ne (h : scal x y = true) (q : Q (.bl (!decide (x = y))) H) : rNe x y H Q := ⟨h, q⟩
theorem g_eqI {i j : Int} (q : Q (.bl (decide (i = j))) H) : rEq (.int i) (.int j) H Q := ⟨rfl, by
  rw [show decide (V.int i = V.int j) = decide (i = j) from by simp]
  exact q⟩
theorem g_eqS {i j : Str} (q : Q (.bl (decide (i = j))) H) : rEq (.str i) (.str j) H Q := ⟨rfl, by
  rw [show decide (V.str i = V.str j) = decide (i = j) from by simp]
  exact q⟩
theorem g_isN (q : Q (.bl (decide (x = .non))) H) : rIsN2 x .non H Q := ⟨rfl, q⟩
theorem g_all {p : Addr} {bs : List Bool} (h : SqL K H p (bs.map V.bl)) (q : Q (.bl (bs.all id)) H) : rAll K [.ref p] H Q := ⟨p, bs, rfl, h, q⟩
theorem g_isi {c : V} {ty uu : Value} {k : Bool} (h1 : ClsV c uu) (h2 : TyX K H x ty) (h3 : PySem.W.kitOne K ty uu = some k) (q : Q (.bl k) H) : rIsi K [x, c] H Q := ⟨x, c, ty, uu, k, rfl, h1, h2, h3, q⟩
theorem g_isiT {tp : Addr} {cs : List V} {ty : Value} {us : List Value} {k : Bool} (h0 : H tp = some (.tup cs)) (h1 : Paired ClsV cs us) (h2 : TyX K H x ty) (h3 : PySem.W.kitAny K ty us = some k) (q : Q (.bl k) H) : rIsiT K [x, .ref tp] H Q := ⟨x, tp, cs, ty, us, k, rfl, h0, h1, h2, h3, q⟩
theorem g_for (h : wi σ H fun J H1 => FL J g s1 D σ H1) : tFor wi g s1 D σ H := h
theorem g_lc {vs : List Nat} (h : wi σ H fun J H1 => LC J g t te vs σ Q H1) : tLc wi g t te vs σ H Q := h
theorem g_iRng1 (h : tA σ H fun vs H1 => rRng1 vs H1 R) : iRng1 tA σ H R := h
theorem g_rng1 {j : Int} (h1 : -(2 ^ 62) ≤ j ∧ j < 2 ^ 62) (h : R (Itr 0 j.toNat) H) : rRng1 [.int j] H R := ⟨j, rfl, h1.1, h1.2, h⟩
theorem g_iSeq (h : te σ H fun x H1 => rSeq K x H1 R) : iSeq K te σ H R := h
theorem g_rSeq {a : Addr} {xs : List V} (hS : Sq K H a xs) (h : ∀ (J : It) (G : Hp → Prop), Walk J xs.length G (YAt xs) → (∀ H', (∀ o, H a = some o → H' a = some o) → G H') → R J H) : rSeq K (.ref a) H R := by
  refine ⟨a, rfl, ?_⟩
  rcases hS with hS | hS
  · refine .inl ⟨⟨xs, hS⟩, h _ _ walk_list fun H' e => ?_⟩
    rcases hS with (hS | ⟨o, hS⟩) | hS
    · exact .inl (.inl (e _ hS))
    · exact .inl (.inr ⟨o, e _ hS⟩)
    · exact .inr hS
  · refine .inr ⟨⟨xs, hS⟩, h _ _ walk_tup fun H' e => ?_⟩
    rcases hS with (hS | ⟨o, hS⟩) | hS
    · exact .inl (.inl (e _ hS))
    · exact .inl (.inr ⟨o, e _ hS⟩)
    · exact .inr hS
theorem fl_walk {J : It} {n : Nat} {G : Hp → Prop} {Y : Nat → Hp → V → Hp → Prop} (w : Walk J n G Y) (Pv : Nat → L2.St → Hp → Prop) (h0 : Pv 0 σ H) (hG : ∀ i σ H, i ≤ n → Pv i σ H → G H)
    (hs : ∀ i x σ H H', i < n → Pv i σ H → Y i H x H' → g x σ H' fun σ2 H2 => s1 ⟨Pv (i + 1), D.rt, D.nx, Pv (i + 1)⟩ σ2 H2) (hd : ∀ σ H, Pv n σ H → D.nx σ H) : FL J g s1 D σ H := for_it w Pv h0 hG hs hd
theorem fl_seq {J : It} {xs : List V} {G : Hp → Prop} {a : Addr} {j : Nat} {H0 : Hp} (w : Walk J xs.length G (YAt xs)) (hG : ∀ H', (∀ o, H0 a = some o → H' a = some o) → G H') (Pv : Nat → L2.St → Hp → Prop) (h0 : Pv 0 σ H) (hS : ∀ i σ H, Pv i σ H → ∀ o, H0 a = some o → H a = some o)
    (hs : ∀ i x σ H, xs[i]? = some x → Pv i σ H → s1 ⟨Pv (i + 1), D.rt, D.nx, Pv (i + 1)⟩ (σ.set j (some x)) H) (hd : ∀ σ H, Pv xs.length σ H → D.nx σ H) : FL J (gName j) s1 D σ H :=
  fl_walk w Pv h0 (fun i σ H _ p => hG H (hS i σ H p)) (fun i x σ H H' hi p y => by
    obtain ⟨rfl, y⟩ := y
    exact hs i x σ _ y p) hd
end
class Lk (σ : L2.St) (i : Nat) (v : outParam V) : Prop where
  at_ : σ[i]? = some (some v)
instance {σ : L2.St} {v : V} : Lk (some v :: σ) 0 v := ⟨rfl⟩
instance {σ : L2.St} {i : Nat} {v : V} {x : Option V} [h : Lk σ i v] : Lk (x :: σ) (i + 1) v := ⟨by rw [List.getElem?_cons_succ]; exact h.at_⟩
class SetL (σ : L2.St) (i : Nat) (x : Option V) (σ' : outParam L2.St) : Prop where
  eq : σ.set i x = σ'
instance {σ : L2.St} {x y : Option V} : SetL (y :: σ) 0 x (x :: σ) := ⟨rfl⟩
instance {σ σ' : L2.St} {i : Nat} {x y : Option V} [h : SetL σ i x σ'] : SetL (y :: σ) (i + 1) x (y :: σ') := ⟨by rw [List.set_cons_succ, h.eq]⟩
def NX (D : Ends) (σ : L2.St) (H : Hp) : Prop := D.nx σ H
def RT (D : Ends) (v : V) (H : Hp) : Prop := D.rt v H
class Stp (g : Prop) (n : outParam Prop) : Prop where
  go : n → g
class Stps (g : Prop) (n : outParam Prop) : Prop where
  go : n → g
class Stp1 (g : Prop) (n : outParam Prop) : Prop where
  go : n → g
instance (priority := low) stps_id {g : Prop} : Stps g g := ⟨id⟩
instance stps_go {g m n : Prop} [a : Stp g m] [b : Stps m n] : Stps g n := ⟨fun h => a.go (b.go h)⟩
instance stp1_go {g m n : Prop} [a : Stp g m] [b : Stps m n] : Stp1 g n := ⟨fun h => a.go (b.go h)⟩
theorem stp1 {g n : Prop} [a : Stp1 g n] (h : n) : g := a.go h
section
variable {σ σ' : L2.St} {H H' : Hp} {Q : VK} {ta tb te : TE} {t u : TT} {a b c : L2.St → Hp → Prop} {rt : VK} {s1 s2 : TS} {D : Ends} {i : Nat} {v x y : V} {K : PySem.W.Frag} {tA tr : TA} {g : TG} {wi : TI} {R : It → Hp → Prop} {A B : Prop}
instance : Stp (NX ⟨a, rt, b, c⟩ σ H) (a σ H) := ⟨g_nx⟩
instance (priority := high) {z : Option V} [h : SetL σ i z σ'] : Stp (NX ⟨a, rt, b, c⟩ (σ.set i z) H) (a σ' H) := ⟨fun q => by unfold NX; rw [h.eq]; exact q⟩
instance : Stp (RT ⟨a, rt, b, c⟩ v H) (rt v H) := ⟨g_rt⟩
instance : Stp (tNext D σ H) (NX D σ H) := ⟨g_next⟩
instance : Stp (tIfS t s1 s2 D σ H) (t σ H fun b H1 => if b = true then s1 D σ H1 else s2 D σ H1) := ⟨g_ifS⟩
instance : Stp (tRet te D σ H) (te σ H fun v H => RT D v H) := ⟨g_ret⟩
instance : Stp (tAsg te (gName i) D σ H) (te σ H fun x H1 => NX D (σ.set i (some x)) H1) := ⟨g_asg⟩
instance {ts : TSet} : Stp (tAsg te (gSub ta tb ts) D σ H) (te σ H fun x H1 => ta σ H1 fun o H2 => tb σ H2 fun i H3 => ts o i x H3 fun H4 => NX D σ H4) := ⟨g_asgS⟩
instance [h : Lk σ i v] : Stp (tVar i σ H Q) (Q v H) := ⟨g_var h.at_⟩
instance : Stp (tC v σ H Q) (Q v H) := ⟨g_c⟩
instance {r : R2} : Stp (tOp r ta tb σ H Q) (ta σ H fun x H1 => tb σ H1 fun y H2 => r x y H2 Q) := ⟨g_op⟩
instance {g : Int → Int → V} {i j : Int} : Stp (rI0 g (.int i) (.int j) H Q) (Q (g i j) H) := ⟨g_I0⟩
instance {q : Bool → Hp → Prop} : Stp (tTest te σ H q) (te σ H fun x H1 => ∃ k, x = .bl k ∧ q k H1) := ⟨g_test⟩
instance {q : Bool → Hp → Prop} : Stp (tB te σ H q) (te σ H fun x H1 => ∃ k, x = .bl k ∧ q k H1) := ⟨g_B⟩
instance {p : Bool → Prop} {k : Bool} : Stp (∃ k', V.bl k = .bl k' ∧ p k') (p k) := ⟨g_bl⟩
instance {q : Bool → Hp → Prop} : Stp (tAnd t u σ H q) (t σ H fun c H1 => if c = true then u σ H1 q else q false H1) := ⟨g_and⟩
instance {q : Bool → Hp → Prop} : Stp (tOr t u σ H q) (t σ H fun c H1 => if c = true then q true H1 else u σ H1 q) := ⟨g_or⟩
instance : Stp (tAndV ta tb σ H Q) (ta σ H fun x H1 => ∃ c, x = .bl c ∧ if c = true then tb σ H1 Q else Q (.bl false) H1) := ⟨g_andV⟩
instance : Stp (if true = true then A else B) A := ⟨g_iteT⟩
instance : Stp (if false = true then A else B) B := ⟨g_iteF⟩
instance : Stp (if (!true) = true then A else B) B := ⟨g_iteNT⟩
instance : Stp (if (!false) = true then A else B) A := ⟨g_iteNF⟩
instance {r : List V → Hp → VK → Prop} : Stp (tCB r tA σ H Q) (tA σ H fun vs H1 => r vs H1 Q) := ⟨g_cb⟩
instance {q : List V → Hp → Prop} : Stp (tNil σ H q) (q [] H) := ⟨g_nil⟩
instance {q : List V → Hp → Prop} : Stp (tCons ta tr σ H q) (ta σ H fun x H1 => tr σ H1 fun xs H2 => q (x :: xs) H2) := ⟨g_cons⟩
instance (priority := high) {sp : Sp} {E : XK} : Stp (tCall sp [] E tA σ H Q) (tA σ H fun vs H1 => sp vs H1 Q E) := ⟨g_call⟩
instance : Stp (tTup tA σ H Q) (tA σ H fun xs H1 => MkO HO.tup xs H1 Q) := ⟨g_tup⟩
instance : Stp (tLst tA σ H Q) (tA σ H fun xs H1 => MkO HO.lst xs H1 Q) := ⟨g_lst⟩
instance {i j : Int} : Stp (rEq (.int i) (.int j) H Q) (Q (.bl (decide (i = j))) H) := ⟨g_eqI⟩
instance {i j : Str} : Stp (rEq (.str i) (.str j) H Q) (Q (.bl (decide (i = j))) H) := ⟨g_eqS⟩
instance : Stp (rIsN2 x .non H Q) (Q (.bl (decide (x = .non))) H) := ⟨g_isN⟩
instance : Stp (tFor wi g s1 D σ H) (wi σ H fun J H1 => FL J g s1 D σ H1) := ⟨g_for⟩
instance {vs : List Nat} : Stp (tLc wi g t te vs σ H Q) (wi σ H fun J H1 => LC J g t te vs σ Q H1) := ⟨g_lc⟩
instance : Stp (iRng1 tA σ H R) (tA σ H fun vs H1 => rRng1 vs H1 R) := ⟨g_iRng1⟩
instance : Stp (iSeq K te σ H R) (te σ H fun x H1 => rSeq K x H1 R) := ⟨g_iSeq⟩
end
def hid (H : Hp) (a : Addr) : Hp := fun b => if b = a then none else H b
theorem hid_ne {H : Hp} {a b : Addr} (h : b ≠ a) : hid H a b = H b := if_neg h
theorem hid_same {H : Hp} {a : Addr} : hid H a a = none := if_pos rfl
theorem hid_upd {B : Hp} {a : Addr} {o : HO} (h : B a = none) : hid (upd B a o) a = B := by
  funext b
  by_cases e : b = a
  · rw [e, hid_same, h]
  · rw [hid_ne e, upd_ne e]
section
variable {X : Cx} {pins : List (Addr × Obj)} {σ : L2.St} {H : Hp} {s : Shared}
theorem Inv.notFs (I : Inv X pins σ H s) {a : Addr} {o : HO} (e : H a = some o) : a ∉ X.fs := fun hb => by
  obtain ⟨_, ob, ho, _⟩ := I.ok.funs.mem hb
  have z := I.base.free a ob ho (I.ok.frf a hb) fun z => I.ok.exfs a z hb
  rw [e] at z
  cases z
theorem Inv.hide {a : Addr} {xs : List V} (I : Inv X pins σ H s) (e : H a = some (.lst xs)) : ∃ ob, s.heap.get? a = some ob ∧ Inv X (pins ++ [(a, ob)]) σ (hid H a) s := by
  obtain ⟨_, its, n, rv, ho⟩ := id (I.hok a _ e)
  have nn : ∀ {b : Addr} {u : HO}, H b = some u → (∀ ys, u ≠ .lst ys) → b ≠ a := fun {b u} q z y => by
    rw [y, e] at q
    exact z _ (Option.some.inj q).symm
  have fr : ∀ {b : Addr}, H b = none → hid H a b = none := fun {b} q => by
    by_cases hb : b = a
    · rw [hb, hid_same]
    · rw [hid_ne hb]
      exact q
  refine ⟨_, ho, I.ok, I.os, I.bare, ⟨I.base.keep, I.base.slot, fun b o q m hx => fr (I.base.free b o q m hx), I.base.there, fun b ys q => ?_, fun b o u q => ?_, fun b ps q => ?_⟩, I.loc, I.cell, fr I.free, fun x c q => fr (I.freeC x c q), fun p hp => ?_, fun b u q => ?_, I.len⟩
  · have z := I.base.tups b ys q
    rw [hid_ne (nn z fun _ y => by cases y)]
    exact z
  · have z := I.base.frzs b o u q
    rw [hid_ne (nn z fun _ y => by cases y)]
    exact z
  · obtain ⟨more, z⟩ := I.base.tbls b ps q
    exact ⟨more, by rw [hid_ne (nn z fun _ y => by cases y)]; exact z⟩
  · rw [← List.append_assoc] at hp
    rcases List.mem_append.mp hp with hp | hp
    · obtain ⟨h1, h2, h3⟩ := I.pin p hp
      exact ⟨h1, fr h2, h3⟩
    · obtain rfl := List.mem_singleton.mp hp
      refine ⟨ho, hid_same, fun z => ?_, Inv.notFs I e, fun v z => by cases z⟩
      have y := I.free
      have z : a = X.env.locals := z
      rw [← z, e] at y
      cases y
  · have hb : b ≠ a := fun z => by
      rw [z, hid_same] at q
      cases q
    rw [hid_ne hb] at q
    exact (I.hok b u q).stay (fun c v _ r => r) (fun c r => by rw [hid_ne (nn r fun _ y => by cases y)]; exact r) fun c ys r => by rw [hid_ne (nn r fun _ y => by cases y)]; exact r
theorem Inv.unhide {a : Addr} {xs : List V} {ob : Obj} {H' : Hp} {s' : Shared} (I : Inv X pins σ H s) (e : H a = some (.lst xs)) (ho : s.heap.get? a = some ob) (J : Inv X (pins ++ [(a, ob)]) σ H' s') : H' a = none ∧ Inv X pins σ (upd H' a (.lst xs)) s' := by
  have hp := J.pin (a, ob) (by simp)
  have hn : H' a = none := hp.2.1
  refine ⟨hn, ?_⟩
  obtain ⟨hz, its, n, rv, ho'⟩ := id (I.hok a _ e)
  rw [ho] at ho'
  have eo := Option.some.inj ho'
  have nn : ∀ {b : Addr} {u : HO}, H' b = some u → b ≠ a := fun {b u} q => ne_of_none q hn
  refine ⟨J.ok, J.os, J.bare, ⟨J.base.keep, J.base.slot, fun b o q m hx => ?_, J.base.there, fun b ys q => ?_, fun b o u q => ?_, fun b ps q => ?_⟩, J.loc, J.cell, ?_, fun x c q => ?_, fun p hq => ?_, ?_, J.len⟩
  · have hb : b ≠ a := fun z => by
      have y := I.base.free b o q m hx
      rw [z, e] at y
      cases y
    rw [upd_ne hb]
    exact J.base.free b o q m hx
  · have z := J.base.tups b ys q
    rw [upd_ne (nn z)]
    exact z
  · have z := J.base.frzs b o u q
    rw [upd_ne (nn z)]
    exact z
  · obtain ⟨more, z⟩ := J.base.tbls b ps q
    exact ⟨more, by rw [upd_ne (nn z)]; exact z⟩
  · have hb : X.env.locals ≠ a := fun z => by
      have y := I.free
      rw [z, e] at y
      cases y
    rw [upd_ne hb]
    exact J.free
  · have hb : c ≠ a := fun z => by
      have y := I.freeC x c q
      rw [z, e] at y
      cases y
    rw [upd_ne hb]
    exact J.freeC x c q
  · obtain ⟨h1, h2, h3⟩ := J.pin p (by rw [← List.append_assoc]; exact List.mem_append_left _ hq)
    have hb : p.1 ≠ a := fun z => by
      have y := (I.pin p hq).2.1
      rw [z, e] at y
      cases y
    exact ⟨h1, by rw [upd_ne hb]; exact h2, h3⟩
  · intro b u q
    by_cases hb : b = a
    · subst hb
      rw [upd_same] at q
      cases q
      exact ⟨hz, its, n, rv, by rw [← eo]; exact hp.1⟩
    · rw [upd_ne hb] at q
      exact (J.hok b u q).stay (fun c v _ r => r) (fun c r => by rw [upd_ne (nn r)]; exact r) fun c ys r => by rw [upd_ne (nn r)]; exact r
def tHid (te : TE) : TE := fun σ H Q => ∃ (a : Addr) (xs : List V), H a = some (.lst xs) ∧ te σ (hid H a) fun v H' => H' a = none → Q v (upd H' a (.lst xs))
def tHidT (t : TT) : TT := fun σ H Q => ∃ (a : Addr) (xs : List V), H a = some (.lst xs) ∧ t σ (hid H a) fun v H' => H' a = none → Q v (upd H' a (.lst xs))
theorem pe_hid {e : Expr} {te : TE} (he : PE X e te) : PE X e (tHid te) := by
  refine ⟨fun pins s σ H Q I h => ?_⟩
  obtain ⟨a, xs, ea, q⟩ := h
  obtain ⟨ob, ho, J⟩ := Inv.hide I ea
  refine thn (he.run _ s σ _ _ J q) fun v s1 ⟨x, H1, I1, r1, q1⟩ => ?_
  obtain ⟨hn, I2⟩ := Inv.unhide I ea ho I1
  exact ⟨x, _, I2, r1, q1 hn⟩
theorem pt_hid {e : Expr} {t : TT} (he : PT X e t) : PT X e (tHidT t) := by
  refine ⟨fun pins s σ H Q I h => ?_⟩
  obtain ⟨a, xs, ea, q⟩ := h
  obtain ⟨ob, ho, J⟩ := Inv.hide I ea
  refine thn (he.run _ s σ _ _ J q) fun b s1 ⟨H1, I1, q1⟩ => ?_
  obtain ⟨hn, I2⟩ := Inv.unhide I ea ho I1
  exact ⟨_, I2, q1 hn⟩
end
section
variable {σ : L2.St} {H : Hp} {Q : VK} {te : TE} {t : TT} {K : PySem.W.Frag} {J : It} {n : Nat} {G : Hp → Prop} {vs : List Nat} {ds : List PyData}
theorem DpAll.snoc {K : PySem.W.Frag} {H : Hp} : ∀ {vs : List V} {ds : List PyData} {v : V} {d : PyData}, DpAll K H vs ds → Dp K H v d → DpAll K H (vs ++ [v]) (ds ++ [d])
  | _, _, _, _, .nil, h => .cons h .nil
  | _, _, _, _, .cons h r, q => .cons h (DpAll.snoc r q)
def LcW (K : PySem.W.Frag) (H : Hp) (p : Addr) (ds : List PyData) (H' : Hp) : Prop := ∃ (B : Hp) (ys : List V), H' = upd B p (.lst ys) ∧ B p = none ∧ L2.Same H B ∧ DpAll K B ys ds
theorem take_snoc {α : Type} {l : List α} {i : Nat} {x : α} (h : l[i]? = some x) : l.take (i + 1) = l.take i ++ [x] := by
  rw [List.take_add_one, h]
  rfl
theorem g_yes {q : Bool → Hp → Prop} (h : q true H) : tYes σ H q := h
theorem lcw_elt {p : Addr} {es : List PyData} {d : PyData} {H' : Hp} {σ2 : L2.St} (w : LcW K H p es H') (hz : es.length < 100000) (he : ∀ B, L2.Same H B → ∀ q : VK, (∀ v B', L2.Same B B' → Dp K B' v d → q v B') → te σ2 B q) {N : Hp → Prop} (hN : ∀ H'', LcW K H p (es ++ [d]) H'' → N H'') :
    tHid te σ2 H' fun y H4 => ∃ acc, H4 p = some (.lst acc) ∧ acc.length < sizeLine ∧ N (upd H4 p (.lst (acc ++ [y]))) := by
  obtain ⟨B, ys, rfl, hB, sm, dp⟩ := w
  refine ⟨p, ys, upd_same, ?_⟩
  rw [hid_upd hB]
  refine he B sm _ fun v B' sm' dv hn => ⟨ys, upd_same, ?_, hN _ ⟨B', ys ++ [v], ?_, hn, sm.trans sm', DpAll.snoc (DpAll.mono sm' dp) dv⟩⟩
  · rw [DpAll.len dp]
    exact Nat.lt_of_lt_of_le hz (by decide)
  · rw [upd_upd]
theorem lcw_start {p : Addr} (h : H p = none) : LcW K H p [] (upd H p (.lst [])) := ⟨H, [], rfl, h, L2.Same.refl H, .nil⟩
theorem lcw_end {p : Addr} {H' : Hp} (w : LcW K H p ds H') (k : ∀ p H', H p = none → L2.Same H H' → (∃ ys, H' p = some (.lst ys) ∧ DpAll K H' ys ds) → Q (.ref p) H') : Q (.ref p) H' := by
  obtain ⟨B, ys, rfl, hB, sm, dp⟩ := w
  exact k p _ (sm.free hB) (sm.trans (same_new hB)) ⟨ys, upd_same, DpAll.mono (same_new hB) dp⟩
theorem lc_dpR {lo : Int} {j : Nat} (sg : V → L2.St) (ds : List PyData) (hl : ds.length = n) (hz : ds.length ≤ 100000) (hg : ∀ x, (wipe σ vs).set j (some x) = sg x) (hw : ∀ x, wipe (sg x) vs = wipe σ vs)
    (he : ∀ (i : Nat) (d : PyData) (B : Hp), i < n → ds[i]? = some d → L2.Same H B → ∀ q : VK, (∀ v B', L2.Same B B' → Dp K B' v d → q v B') → te (sg (.int (lo + i))) B q)
    (k : ∀ p H', H p = none → L2.Same H H' → (∃ ys, H' p = some (.lst ys) ∧ DpAll K H' ys ds) → Q (.ref p) H') : LC (Itr lo n) (gName j) tYes (tHid te) vs σ Q H := by
  intro D hD
  refine lc_it (Qd := fun H' => Q (.ref D) H') walk_range (fun i H' => LcW K H D (ds.take i) H') (lcw_start hD) (fun i H' _ p => True.intro) (fun i x H1 H2 hi p y => ?_) (fun H' p => ?_)
  · obtain ⟨rfl, rfl⟩ := y
    obtain ⟨d, hd⟩ : ∃ d, ds[i]? = some d := ⟨ds[i]'(by omega), by simp⟩
    show wipe ((wipe σ vs).set j (some (.int (lo + i)))) vs = wipe σ vs ∧ tYes ((wipe σ vs).set j (some (.int (lo + i)))) _ _
    rw [hg]
    refine ⟨hw _, ?_⟩
    refine g_yes (g_iteT ?_)
    refine lcw_elt p (by rw [List.length_take]; omega) (fun B sm q hq => he i d B hi hd sm q hq) fun H'' p' => ?_
    rw [take_snoc hd]
    exact p'
  · rw [List.take_of_length_le (by omega)] at p
    exact lcw_end p k
end
end Wk

set_option Elab.async false
set_option linter.all false
set_option maxRecDepth 100000
set_option maxHeartbeats 4000000
namespace Wk
open PySem PySem.Spec PyProof.Rows L2
section
variable {X : Cx}
theorem pe_cfun {CX : CXT} {x m : Str} {C f : Addr} {mc : Value} {k : Nat} {fd : FuncData} {ps : List Str} {sp : Sp} {ds : List Value} {dvs : List V} {E : XK} {e : Expr} {es : List Expr} {t : TA} {p1 p2 pos : Pos} {pl : Sem Bool}
    (hg : Gl X x) (hm : X.mg x = some (.ref C)) (r : ClX.CRead X.K C mc) (c : PySem.W.findCls X.K (.ref C) mc m = some (.val (.ref f))) (F : FnOk X.prog X.w X.K X.mg X.base CX k f fd ps sp) (hr : Room k X.A) (hk : PySem.W.keepIn X.K (.ref f) = true)
    (hb : Binds X.K fd ps ds) (hd : Vals dvs ds) (hx : Passes CX X E) (ha : PA X (e :: es) t) (hdb : (x == ("__debug__" : Str)) = false := by decide)
    (hst : starEach (e :: es) X.env = (false, eval e X.env) :: starEach es X.env := by rfl) (hpl : (backTo pos (starEach es X.env)).any (·.1) = false := by rfl)
    (ht : eval (.Call (.Attribute (.Name x p1) m p2) (e :: es) [] pos) X.env = (do
      let ov ← eval (.Name x p1) X.env
      standAt p2.atName
      let (f, first) ← holding [ov] (getMethod ov m pl)
      callWith pos f first (backTo pos (starEach (e :: es) X.env)) (backToKw pos (keywordEach [] X.env))) := by rfl) :
    PE X (.Call (.Attribute (.Name x p1) m p2) (e :: es) [] pos) (tCall sp dvs E t) := by
  refine ⟨fun pins s σ H Q I h => ?_⟩
  refine PySem.W.methodCall_KW (pl := pl) (ld_glob I hg hm ?_ hdb) ht
  refine PySem.W.method_cls I.kIn r.ga (ClX.getcval_ok (v := .ref f) I r ⟨c, rfl⟩ fun s' I' => ?_)
  refine PySem.W.callWith_K (h₀ := X.base) I'.ok.mod.kin hk (thn (ha.run pos pins s' σ H _ I' h) fun us s1 ⟨vs, H1, I1, rv, q⟩ => ⟨I1.kIn, ?_⟩) hst hpl
  exact run_fn F hr hb hd hx I1 rv q
theorem pmk_oex0 {CX : CXT} {x : Str} {C fI : Addr} {k : Nat} {fd : FuncData} {ps : List Str} {sp : Sp} {ds : List Value} {dvs : List V} {p pos : Pos} (T : OexC X.K C) (iC : PySem.W.findIn X.K (.ref C) "__init__" = some (some (.ref fI))) (tI : PySem.W.typeIn X.K (.ref fI) = some (.type "function"))
    (F1 : FnOk X.prog X.w X.K X.mg X.base CX k fI fd ps sp) (hr : Room (k + 1) X.A) (hb : Binds X.K fd ps ds) (hd : Vals dvs ds) (hx : Passes CX X (fun _ _ _ => False)) (hg : Gl X x) (hm : X.mg x = some (.ref C))
    (hdb : (x == ("__debug__" : Str)) = false := by decide) : PMk X (.Call (.Name x p) [] [] pos) (tMkO C sp dvs tNil) := by
  intro pins s σ H Q I h
  obtain ⟨nm, q, N, bs, bm, sn, sub, ab, col, dd, k0, k1, k2, k3, k5, hC, hbm⟩ := T.cls
  refine wpAny_Call_Name_kw (ld_glob I hg hm ?_ hdb)
  refine PySem.W.callWith_K0 I.kIn T.kC ?_
  show wpAny _ _ (call (.ref C) []) _ _ _
  obtain ⟨hz, q1⟩ := h
  obtain ⟨hp, g, dr, tk, os⟩ := s
  have hsz : hp.objs.size ≤ hp.objs.size + 1 := Nat.le_succ _
  have hn : H (hp.objs.size + 1) = none := I.hok.fresh hsz
  have hq := q1 (hp.objs.size + 1) hn
  rw [List.nil_append] at hq
  have kk : ∀ b o, hp.get? b = some o → ((hp.push (PySem.W.kdv_tup [])).push (PySem.HandSPX.excO C hp.objs.size)).get? b = some o := fun b o e => Heap.get?_push_of_some _ (Heap.get?_push_of_some _ e)
  have hget : ((hp.push (PySem.W.kdv_tup [])).push (PySem.HandSPX.excO C hp.objs.size)).get? (hp.objs.size + 1) = some (PySem.HandSPX.excO C hp.objs.size) := by heap_get
  have I2 : Inv X pins σ (upd H (hp.objs.size + 1) (exo (hp.objs.size + 1) C none)) ⟨(hp.push (PySem.W.kdv_tup [])).push (PySem.HandSPX.excO C hp.objs.size), g, dr, tk, os⟩ :=
    I.laid (t' := tk) (a := hp.objs.size + 1) (o := exo (hp.objs.size + 1) C none) (h' := (hp.push (PySem.W.kdv_tup [])).push (PySem.HandSPX.excO C hp.objs.size)) kk hsz (exo_ok hget)
  have r2 : Vals (V.ref (hp.objs.size + 1) :: dvs) (Value.ref (hp.objs.size + 1) :: ds) := .cons rfl hd
  have hb2 := hb ⟨(hp.push (PySem.W.kdv_tup [])).push (PySem.HandSPX.excO C hp.objs.size), g, dr, tk, os⟩ [Value.ref (hp.objs.size + 1)] I2.kIn
  rw [List.singleton_append] at hb2
  have hl : (Value.ref (hp.objs.size + 1) :: ds).length = ps.length := by
    have e := r2.length
    rw [F1.len _ _ _ _ hq] at e
    exact e.symm
  refine wpAny_call (PySem.HandSPX.call_own F.excBase_ValueError (fun Y => PySem.HandSPX.refsVE_contains Y bm hbm) (I.kIn _ _ hC) (PySem.W.looks_findIn I.kIn iC) (fun self => PySem.W.bind_fn I.kIn self tI) (Nat.zero_le _)
    (codeAny_mono (F1.run _ X.stack _ _ ⟨[Value.ref (hp.objs.size + 1)], []⟩ (Value.ref (hp.objs.size + 1) :: ds) _ _ (fun _ _ _ => False) (hr.make C [] []) (I2.env0.make C [] []) (hb2 hl) r2 hq) fun r s' hq' => ?_))
  cases r with
  | error er => exact hx pins σ _ _ er s' I2 hq'
  | ok fl =>
    cases fl with
    | ret u =>
      obtain ⟨v, H2, os2, bare2, un2, hok2, rv, ev, d, fs, ea, ed, hd1, q2⟩ := hq'
      subst ev
      obtain ⟨h2, g2, d2, t2, os'⟩ := s'
      exact ⟨rv, mk_end (raises_own T.exC T.tyC) I hsz kk un2 hok2 os2 bare2 ea ed hd1 q2⟩
    | next => exact False.elim hq'
    | brk => exact False.elim hq'
    | cont => exact False.elim hq'
def tXfA (K : PySem.W.Frag) (a : Addr) (cls : Value) (d : Option Addr) (f : Str) (te : TE) : TE := fun σ H Q => te σ H fun x H1 => x = .ref a ∧ ∃ C : Addr, cls = .ref C ∧ XfC K C ∧ PySem.W.findIn K (.ref C) f = some none ∧ ∃ (dd : Addr) (fs : List (Str × V)) (v : V), d = some dd ∧ H1 dd = some (.xd fs) ∧ fs.lookup f = some v ∧ Q v H1
theorem pe_xfA {a : Addr} {oe : Obj} {cls : Value} {d : Option Addr} {pn : List (Addr × Obj)} {e : Expr} {te : TE} {pos : Pos} {n : Str} (hz : Zc cls d oe) (hf : ∃ vs, oe.data = .fields vs) (he : PE (X.suite a ((a, oe) :: pn)) e te) (hb : attributeBase e n X.env (eval e X.env) = eval e X.env := by rfl) :
    PE (X.suite a ((a, oe) :: pn)) (.Attribute e n pos) (tXfA X.K a cls d n te) := by
  refine ⟨fun pins s σ H Q I h => ?_⟩
  refine attr_of hb (thn (he.run pins s σ H _ I h) fun u s1 hh => ?_)
  obtain ⟨x, H1, I1, rx, ex, C, ec, T, hno, dd, fs, v, ed, ea, l, q⟩ := hh
  subst ex
  obtain rfl : u = Value.ref a := rx
  subst ec
  subst ed
  have ha := (I1.pin (a, oe) (List.mem_append_left _ List.mem_cons_self)).1
  obtain ⟨vs, hd⟩ := hf
  obtain ⟨mA, hns, hr⟩ : ObjOk X.prog X.w H1 s1.heap dd (.xd fs) := I1.hok dd _ ea
  obtain ⟨od, ho, hl⟩ := lookIn_ns hns
  obtain ⟨u, hu, ru⟩ := RelO.some_of (v := v) (o := mA n) (by rw [← l]; exact hr n)
  have J : PySem.W.InstAt s1.heap a oe C (some od) := ⟨ha, hz.1, by unfold PySem.W.notCls; rw [hd] <;> rfl, by rw [hz.2]; exact ho⟩
  exact HandSPX.exc_get I1.kIn J T.ga T.gg T.exC (PySem.W.findObj_own T.hdC hno rfl (by rw [hl, hu])) (handed_of ru) ⟨v, H1, I1.tok _, ru, q⟩
end
def wAsMany (K : PySem.W.Frag) (i : Nat) (Wout : WX) (D : Ends) : List (Value × (Addr → Value → Option Addr → TS)) → WX
  | [] => Wout
  | (c, ts) :: r => fun cls d σ H => ∃ b, PySem.W.exmOne K cls c = some b ∧
      (b = true → ∀ a, H a = none → ts a cls d ⟨fun σ' H' => D.nx (σ'.set i none) H', D.rt, fun σ' H' => D.bk (σ'.set i none) H', fun σ' H' => D.ct (σ'.set i none) H'⟩ (σ.set i (some (.ref a))) H) ∧ (b = false → wAsMany K i Wout D r cls d σ H)
inductive HdsAs (X : Cx) (n : Str) : List ExceptHandler → List (Value × (Addr → Value → Option Addr → TS)) → Prop
  | nil : HdsAs X n [] []
  | cons {x : Str} {c : Value} {ts : Addr → Value → Option Addr → TS} {b0 : Stmt} {suite : List Stmt} {np pos' : Pos} {hds : List ExceptHandler} {l : List (Value × (Addr → Value → Option Addr → TS))} (hc : Names X x c)
      (hsu : ∀ (a : Addr) (oe : Obj) (cls : Value) (d : Option Addr) (pn : List (Addr × Obj)), Zc cls d oe → (∃ vs, oe.data = .fields vs) → PSs (X.suite a ((a, oe) :: pn)) (b0 :: suite) (ts a cls d)) (r : HdsAs X n hds l) :
      HdsAs X n (.ExceptHandler (some (.Name x np)) (some n) (b0 :: suite) pos' :: hds) ((c, ts) :: l)
section
variable {X : Cx} {n : Str} {i : Nat} {body : List Stmt} {h0 : ExceptHandler} {hds : List ExceptHandler} {l : List (Value × (Addr → Value → Option Addr → TS))} {pos : Pos} {tb : WX → TS} {Wout : WX}
theorem ps_try_asMany (hs : X.stack = X.env :: X.outer) (hf : X.env.frame = some X.env.locals) (hN : X.N.Nodup) (hi : X.N[i]? = some n) (hln : X.env.kindOf n = some .local) (tk : Takes X Wout)
    (hb : ∀ (W : WX) (pn : List (Addr × Obj)) (xe : Value → Shared → Prop), Takes (X.tr pn xe) W → PassesOwn (model X.prog X.w) X.A X.env xe → PSs (X.tr pn xe) body (tb W))
    (hh : HdsAs X n (h0 :: hds) l) : PS X (.Try body (h0 :: hds) [] [] pos) (fun D σ H => tb (wAsMany X.K i Wout D l) D σ H) := by
  refine ⟨fun pins s σ H D I h => ?_⟩
  have ok := I.ok
  have hfr : X.A.frames = some (X.env :: X.outer) := by rw [ok.frames, hs]
  have hloc : Loc X.env.scope n := .inl hln
  refine wpAny_Try_except ?_
  refine wpAny_mono ((hb (wAsMany X.K i Wout D l) (X.pn ++ pins) (fun e s1 => wpAny (model X.prog X.w) X.A (noteFrame e X.env) (fun _ s2 => wpAny (model X.prog X.w) X.A (setFlight e none) (fun _ s3 =>
    wpAny (model X.prog X.w) X.A (handleBy e X.env (h0 :: hds)) (SP X pins D) X.xe s3) X.xe s2) X.xe s1) (fun u s' xx => ?_) PassesOwn.looking).run [] s σ H D (I.toTry _) h) (fun f s1 hsp => ?_) (fun e s1 he => he)
  · obtain ⟨a, B, sI, pins', σ', H', cls, d, rfl, J', nb, up, sky, na, os, ag, wsh⟩ := xx
    have J : Inv X pins σ' H' sI := J'.ofTry ok
    have skyE : Sky B (X.env :: X.outer) a (Zc cls d) X.env.locals s'.heap := by rw [← hs]; exact sky
    show wpAny (model X.prog X.w) X.A (noteFrame (.ref a) X.env) _ _ _
    refine Sky.land Zc.steady hfr hf skyE fun h3 fl3 up3 => ?_
    have J3 : Inv X pins σ' H' { s' with heap := h3 } := J.landed nb fl3.1 (up.trans up3) os ag
    obtain ⟨oe3, vs3, he3, hz3, hd3⟩ := fl3.there
    have nfr : a ∉ frs (X.env :: X.outer) := fun hm => by
      obtain ⟨_, o', e', hnf⟩ := fl3.2.2.1.mem hm
      rw [he3] at e'
      cases e'
      exact hnf _ hd3
    have nL : a ≠ X.env.locals := fun z => nfr (List.mem_filterMap.mpr ⟨X.env, List.mem_cons_self, by rw [hf, z]⟩)
    have nF : a ∉ X.fs := fun hm => by
      obtain ⟨e, he, q⟩ := List.mem_filterMap.mp hm
      exact nfr (List.mem_filterMap.mpr ⟨e, List.mem_cons_of_mem _ he, q⟩)
    have S3 := J3.suite he3 hd3 na nL nF
    have LT : PySem.W.Looks (model X.prog X.w) h3 (typeOf (.ref a)) cls := fun A Q E s k q => wpAny_typeOf_ref (k _ _ he3) (by rw [hz3.1]; exact q)
    have go : ∀ {hds' : List ExceptHandler} {l' : List (Value × (Addr → Value → Option Addr → TS))}, HdsAs X n hds' l' → wAsMany X.K i Wout D l' cls d σ' H' →
        wpAny (model X.prog X.w) X.A (handleBy (.ref a) X.env hds') (SP X pins D) X.xe { s' with heap := h3 } := by
      intro hds' l' hk
      induction hk with
      | nil =>
        intro wz
        refine wpAny_handleBy_nil ?_
        obtain ⟨k1, k2, k3, oe, vs, T, oT, ts', he, hz, hd, h1, hr⟩ := id fl3
        unfold PySem.passOn
        refine wpAny_bind (wpAny_field he hd h1 ?_)
        rw [if_neg (show ¬ ((Value.ref T == Value.none) = true) from by simp)]
        have fin : wpAny (model X.prog X.w) X.A (setFlight (.ref a) X.env.frame) (fun _ s4 => wpAny (model X.prog X.w) X.A (throw (.ref a) : Sem Flow) (SP X pins D) X.xe s4) X.xe { s' with heap := h3 } := by
          rw [hf]
          refine HandSPX.setFlight_upZ fl3 fun h4 hh4 up4 => wpAny_throw (tk _ _ ?_)
          exact ⟨a, B, sI, pins, σ', H', cls, d, rfl, J, nb, (up.trans up3).trans up4, .inr (.inr (by rw [hs]; exact hh4)), na, os, ag, wz⟩
        first
          | exact wpAny_bind (wpAny_pure (wpAny_bind fin))
          | exact wpAny_bind fin
      | @cons x c ts b0 suite np pos' hds2 l2 hc hsu r ih =>
        intro wz
        obtain ⟨b, hb1, hyes, hno⟩ := wz
        refine wpAny_handleBy_cons (codeAny_handlers_test ?_) (by intro q; cases q)
        have LM := PySem.W.exm_one (M := model X.prog X.w) (J3.kIn) LT hb1
        have test : ∀ {Q : Value → Shared → Prop} {E : Value → Shared → Prop}, Q c { s' with heap := h3 } → wpAny (model X.prog X.w) (X.A.mark (some (.ref a))) (eval (.Name x np) X.env) Q E { s' with heap := h3 } := fun {Q E} q => by
          obtain ⟨hg, hdbg, hm | ⟨hm, hv, hnn⟩⟩ := hc
          · exact ld_glob (X := X.suite a ((a, oe3) :: (X.pn ++ pins))) S3 hg hm q hdbg
          · exact ld_blt (X := X.suite a ((a, oe3) :: (X.pn ++ pins))) S3 hg hm hv q hnn hdbg
        refine test (LM.here ?_)
        cases b with
        | false =>
          show wpAny _ X.A (handleBy (.ref a) X.env hds2) _ _ _
          exact ih (hno rfl)
        | true =>
          refine codeAny_handlers_suite_as ?_
          refine HandSPX.lands_againZ fl3 fun h4 fl4 up4 => ?_
          have J4 : Inv X pins σ' H' { s' with heap := h4 } := J.landed nb fl4.1 ((up.trans up3).trans up4) os ag
          obtain ⟨oe4, vs4, he4, hz4, hd4⟩ := fl4.there
          have S4 := J4.suite he4 hd4 na nL nF
          refine store_ok (X := X.suite a ((a, oe4) :: (X.pn ++ pins))) (v := .ref a) S4 hN hi hloc rfl (fun s5 S5 => ?_) (.inr hln)
          refine wpAny_mono ((hsu a oe4 cls d (X.pn ++ pins) hz4 ⟨_, hd4⟩).run [] s5 _ H' _ S5 (hyes rfl a na)) (fun f s6 hsp => ?_) (fun _ _ z => False.elim z)
          have end_ : ∀ {σ6 : L2.St} {H6 : Hp} {Q : Shared → Prop}, Inv (X.suite a ((a, oe4) :: (X.pn ++ pins))) [] σ6 H6 s6 → (∀ s7, Inv X pins (σ6.set i none) H6 s7 → Q s7) →
              wpAny (model X.prog X.w) X.A (do bindName X.env n .none; unbindBehindTheSuite X.env n pos') (fun _ s7 => Q s7) X.xe s6 := fun {σ6 H6 Q} S6 hq => gone_ok (S6.unsuite ok) hN hi hln hq
          cases f with
          | next =>
            obtain ⟨σ6, H6, S6, q6⟩ := hsp
            exact end_ S6 fun s7 J7 => ⟨_, _, J7, q6⟩
          | brk =>
            obtain ⟨σ6, H6, S6, q6⟩ := hsp
            exact end_ S6 fun s7 J7 => ⟨_, _, J7, q6⟩
          | cont =>
            obtain ⟨σ6, H6, S6, q6⟩ := hsp
            exact end_ S6 fun s7 J7 => ⟨_, _, J7, q6⟩
          | ret u =>
            obtain ⟨v6, σ6, H6, S6, r6, q6⟩ := hsp
            exact end_ S6 fun s7 J7 => ⟨_, _, _, J7, r6, q6⟩
    exact go hh wsh
  · cases f with
    | next =>
      obtain ⟨σ', H', J', q⟩ := hsp
      exact wpAny_execs_nil ⟨σ', H', J'.ofTry ok, q⟩
    | brk =>
      obtain ⟨σ', H', J', q⟩ := hsp
      exact ⟨σ', H', J'.ofTry ok, q⟩
    | cont =>
      obtain ⟨σ', H', J', q⟩ := hsp
      exact ⟨σ', H', J'.ofTry ok, q⟩
    | ret u =>
      obtain ⟨v, σ', H', J', r, q⟩ := hsp
      exact ⟨v, σ', H', J'.ofTry ok, r, q⟩
end
structure FunA (K : PySem.W.Frag) (x qual : Str) (st : Stmt) (f : Addr) (fd : FuncData) : Prop where
  ex : ∃ (oc : Value) (od : Option Addr) (dV kV doc pm : Value) (an : Option Addr) (cdv ct : Value) (osl : Array (Option Value)),
    fd = PySem.W.fnOf x qual (defArgs st) (defBody st) (defScope st) dV kV doc pm an cdv ct ∧ K.lookup f = some ⟨oc, od, .func fd, osl⟩ ∧ PySem.W.codeIn K cdv qual = true
  kp : PySem.W.keepIn K (.ref f) = true
section
variable {P : Program} {w : World} {K : PySem.W.Frag} {mg : Str → Option Value} {base : Heap}
theorem FunA.okX {x qual : Str} {st : Stmt} {f : Addr} {fd : FuncData} {N ps : List Str} {k : Nat} {sp : Sp} (F : FunA K x qual st f fd) (S : FnScope N ps (defScope st)) (len : ∀ vs H Q E, sp vs H Q E → vs.length = ps.length)
    (hbody : ∀ (cdv : Value) (A : Around) (outer : List Env) (s : Shared) (H : Hp) (vs : List V) (Q : VK) (E : XK), Room k (A.deeper (envOfC qual (defScope st) s.heap.objs.size f cdv)) → sp vs H Q E →
      ∃ t, PSs (cxOf (L2.CX P w) P w K mg base N qual (defScope st) f cdv A outer s H E) (defBody st) t ∧ t { nx := fun _ H' => Q .non H', rt := Q } (L2.start N vs) H) : FnOk P w K mg base (L2.CX P w) (k + 1) f fd ps sp := by
  obtain ⟨oc, od, dV, kV, doc, pm, an, cdv, ct, osl, rfl, lk, hcd⟩ := F.ex
  exact fn_of lk hcd S len fun A outer s H vs Q E hr hsp => hbody cdv A outer s H vs Q E hr hsp
structure FunC (K : PySem.W.Frag) (x qual : Str) (st : Stmt) (f : Addr) (fd : FuncData) (c : Addr) : Prop where
  ex : ∃ (oc : Value) (od : Option Addr) (dV kV doc pm : Value) (an : Option Addr) (ct : Value) (osl : Array (Option Value)),
    fd = PySem.W.fnOf x qual (defArgs st) (defBody st) (defScope st) dV kV doc pm an (.ref c) ct ∧ K.lookup f = some ⟨oc, od, .func fd, osl⟩ ∧ PySem.W.codeIn K (.ref c) qual = true
  kp : PySem.W.keepIn K (.ref f) = true
theorem FunC.okX {x qual : Str} {st : Stmt} {f c : Addr} {fd : FuncData} {N ps : List Str} {k : Nat} {sp : Sp} (F : FunC K x qual st f fd c) (S : FnScope N ps (defScope st)) (len : ∀ vs H Q E, sp vs H Q E → vs.length = ps.length)
    (hbody : ∀ (A : Around) (outer : List Env) (s : Shared) (H : Hp) (vs : List V) (Q : VK) (E : XK), Room k (A.deeper (envOfC qual (defScope st) s.heap.objs.size f (.ref c))) → sp vs H Q E →
      ∃ t, PSs (cxOf (L2.CX P w) P w K mg base N qual (defScope st) f (.ref c) A outer s H E) (defBody st) t ∧ t { nx := fun _ H' => Q .non H', rt := Q } (L2.start N vs) H) : FnOk P w K mg base (L2.CX P w) (k + 1) f fd ps sp := by
  obtain ⟨oc, od, dV, kV, doc, pm, an, ct, osl, rfl, lk, hcd⟩ := F.ex
  exact fn_of lk hcd S len fun A outer s H vs Q E hr hsp => hbody A outer s H vs Q E hr hsp
end
structure FnK (K : PySem.W.Frag) (mg : Str → Option Value) (x : Str) (st : Stmt) (ps : List Str) (dvs : List V) (n : Nat) (ks : List Str) where
  a : Addr
  fd : FuncData
  F : FunA K x x st a fd
  g : mg x = some (.ref a)
  ds : List Value
  bv : Vals dvs ds
  bd : Binds K fd ps ds
  kb : KBn K fd ps n ks (fun us ws => us ++ ws) (fun vs zs => vs ++ zs)
structure FnL (K : PySem.W.Frag) (mg : Str → Option Value) (x : Str) (st : Stmt) (ps : List Str) where
  a : Addr
  fd : FuncData
  c : Addr
  tb : Addr
  F : FunC K x x st a fd c
  b : Binds K fd ps []
  g : mg x = some (.ref a)
  ht : PySem.W.tabIn K x = some (c, tb)
structure XcE (K : PySem.W.Frag) (mg : Str → Option Value) (x qual : Str) (st : Stmt) (ps : List Str) where
  C : Addr
  fI : Addr
  fd : FuncData
  gC : mg x = some (.ref C)
  oex : OexC K C
  iC : PySem.W.findIn K (.ref C) "__init__" = some (some (.ref fI))
  tI : PySem.W.typeIn K (.ref fI) = some (.type "function")
  F : FunA K "__init__" qual st fI fd
  b : Binds K fd ps []
  xf : XfC K C
  no : PySem.W.findIn K (.ref C) "word" = some none
structure XbE (K : PySem.W.Frag) (mg : Str → Option Value) (x qual : Str) (st : Stmt) (ps : List Str) where
  C : Addr
  fI : Addr
  fd : FuncData
  gC : mg x = some (.ref C)
  F : FunA K "__init__" qual st fI fd
  b : Binds K fd ps []
  rd : ClX.CRead K C (.type "type")
  fc : PySem.W.findCls K (.ref C) (.type "type") "__init__" = some (.val (.ref fI))
def sp_init1 (K : PySem.W.Frag) : Sp := fun vs H Q _ => ∃ (a C : Addr) (v : V), vs = [.ref a, v] ∧ H a = some (exo a C none) ∧ OexC K C ∧ PySem.W.findIn K (.ref C) "word" = some none ∧ ∀ dx, H dx = none → dx ≠ a → Q .non (upd (upd H dx (exd dx [("word", v)])) a (exo a C (some dx)))
def sp_init0 (K : PySem.W.Frag) (name : Str) : Sp := fun vs H Q _ => ∃ (a C : Addr), vs = [.ref a] ∧ H a = some (exo a C none) ∧ OexC K C ∧ PySem.W.findIn K (.ref C) "word" = some none ∧ ∀ dx, H dx = none → dx ≠ a → Q .non (upd (upd H dx (exd dx [("word", .str name)])) a (exo a C (some dx)))
def Rz (E : XK) (C : Addr) (name : Str) (H : Hp) : Prop := ∀ d H', L2.Same H H' → H d = none → H' d = some (.xd [("word", .str name)]) → E (.ref C) (some d) H'
theorem g_raise0 {K : PySem.W.Frag} {C : Addr} {name : Str} {σ : L2.St} {H : Hp} {W : WX} (T : OexC K C) (no : PySem.W.findIn K (.ref C) "word" = some none) (h : Rz (fun cls d H' => W cls d σ H') C name H) : tMkO C (sp_init0 K name) [] tNil σ H (fun cls d H' => W cls d σ H') := by
  refine ⟨Nat.zero_le _, fun a na => ⟨a, C, rfl, upd_same, T, no, fun dx nd ne => ⟨rfl, dx, _, upd_same, ?_, ?_, h dx _ (fun b o e => ?_) ?_ upd_same⟩⟩⟩
  · rw [upd_ne ne, upd_same]
  · rw [upd_ne ne] at nd
    exact nd
  · have hb1 : b ≠ a := ne_of_none e na
    have nd' : H dx = none := by
      rw [upd_ne ne] at nd
      exact nd
    have hb2 : b ≠ dx := ne_of_none e nd'
    rw [upd_ne hb2, del_ne hb1, upd_ne hb1, upd_ne hb2, upd_ne hb1]
    exact e
  · rw [upd_ne ne] at nd
    exact nd
section
variable {X : Cx} {pins : List (Addr × Obj)} {σ : L2.St} {H HZ : Hp} {s s1 : Shared}
open LamX
theorem pe_actS {CXg : CXT} {Eg : XK} {Ng : List Str} {qg : Str} {sg : Scope} {g f c' : Addr} {cdg pm ctv : Value} {params : Arguments} {body : Expr} {scope : Scope} {k i : Nat} {a : Str} {pn : List (Addr × Obj)} {xe : Value → Shared → Prop} {W : WX} {tb : XK → TE} {p1 p2 : Pos}
    (I : Inv X pins σ H s) (L : LamS X.env.scope scope) (hf : s.heap.get? f = some (PySem.W.kla_obj "<lambda>" (X.env.qual ++ "<lambda>") params body scope (cloFrom X.env.cells scope.names []) pm c' ctv)) (hfn : H f = none) (hfr : f ∉ frs X.stack)
    (hbind : bindArgs (PySem.W.kla_fn "<lambda>" (X.env.qual ++ "<lambda>") params body scope (cloFrom X.env.cells scope.names []) pm (.ref c') ctv) ⟨[], []⟩ = pure [])
    (tk : Takes ((cxOf CXg X.prog X.w X.K X.mg X.base Ng qg sg g cdg X.A X.stack s H Eg).tr pn xe) W) (hr : Room (k + 1) (X.A.deeper (envOfC qg sg s.heap.objs.size g cdg)))
    (hbody : ∀ (E : XK) (A : Around) (outer : List Env) (s : Shared) (H : Hp), Room k (A.deeper (lamEnv X scope s.heap.objs.size f c')) → PE (lamCx X A outer s H E scope f c') body (tb E))
    (hN : Ng[i]? = some a) (hv : Vis sg a) (hd : (a == ("__debug__" : Str)) = false := by decide) (hcd : (a == ("__classdict__" : Str)) = false := by decide) :
    PE ((cxOf CXg X.prog X.w X.K X.mg X.base Ng qg sg g cdg X.A X.stack s H Eg).tr pn xe) (.Call (.Name a p1) [] [] p2)
      (fun σZ HZ Q => σZ[i]? = some (some (.ref f)) ∧ HZ c' = some (CodeO c' (X.env.qual ++ "<lambda>")) ∧ tb (WE W σZ) σ HZ Q) := by
  refine ⟨fun pinsZ sZ σZ HZ Q IZ h => ?_⟩
  obtain ⟨hs, hc, ht⟩ := h
  refine wpAny_Call_Name_kw (thn ((pe_var (pos := p1) (i := i) hN hv hd hcd).run pinsZ sZ σZ HZ (fun v H1 => v = .ref f ∧ H1 = HZ) IZ ⟨.ref f, hs, rfl, rfl⟩) fun u s1 ⟨v, H1, I1, r1, q1⟩ => ?_)
  obtain ⟨ev, eH⟩ := q1
  subst ev
  rw [eH] at I1
  obtain rfl : u = Value.ref f := r1
  have of1 : s1.heap.get? f = some (PySem.W.kla_obj "<lambda>" (X.env.qual ++ "<lambda>") params body scope (cloFrom X.env.cells scope.names []) pm c' ctv) := I1.base.keep f _ hf hfn hfr (fun z => nomatch (show f ∈ ([] : List Addr) from z))
  refine PySem.W.callWith_F0 ⟨_, _, _, _, of1⟩ ?_
  have un : Un (frs X.stack) [] H HZ s.heap s1.heap := I1.base
  obtain ⟨⟨oc, vs, t, hoc, hdc, hvc⟩, _, _⟩ := I1.hok c' _ hc
  have rc : codeAny (model X.prog X.w) (X.A.deeper (envOfC qg sg s.heap.objs.size g cdg)) (.call (.ref f) ⟨[], []⟩) (CR (L2.CX X.prog X.w) (envOfC qg sg s.heap.objs.size g cdg :: X.stack) X.prog X.w HZ s1 Q (WE W σZ)) s1 := by
    refine PySem.W.kla_callFunE hr.depth of1 rfl L.co L.gen rfl ⟨c', oc, vs, t, rfl, hoc, hdc, hvc⟩ ?_
    rw [hbind]
    refine wpAny_pure (wpAny_newFunctionEnv (fun y hy => (L.own y hy).2) (fun y hy => absurd hy (by simp)) (fun h1 hns hsb => ⟨I1.nolimit.fresh _ hsb, ?_⟩) L.kind)
    show codeAny _ _ (.expr body (lamEnv X scope s1.heap.objs.size f c')) _ _
    have kp : ∀ b o, s1.heap.get? b = some o → h1.get? b = some o := fun b o e => hsb.extBut b o (Nat.ne_of_lt (Heap.lt_size e)) (Heap.get?_push_of_some _ e)
    have J : Inv (lamCx X (X.A.deeper (envOfC qg sg s.heap.objs.size g cdg)) (envOfC qg sg s.heap.objs.size g cdg :: X.stack) s1 HZ (WE W σZ) scope f c') [] σ HZ { s1 with heap := h1, toks := s1.toks + ([] : List (Str × Value)).length } :=
      lam_start2 I L I1.env0 hr.hd un hns kp
    refine PySem.W.kla_codeExpr (wpAny_mono ((hbody _ _ _ s1 HZ (hr.deeper _)).run [] _ _ HZ Q J ht) (fun v s' hq => ?_) fun e s' hq => hq)
    obtain ⟨w', H', J', rv, q⟩ := hq
    exact ⟨w', H', J'.os, J'.bare, J'.base, J'.hok, rv, q⟩
  refine wpAny_call (codeAny_mono rc fun r s' hq => ?_)
  cases r with
  | error e => exact passAt tk σZ pinsZ HZ s1 e s' I1 hq
  | ok fl =>
    cases fl with
    | ret u => exact I1.after hq
    | next => exact False.elim hq
    | brk => exact False.elim hq
    | cont => exact False.elim hq
def GivesS (X : Cx) (Ng : List Str) (x : Str) (sg : Scope) (g : Addr) (cdg : Value) (bg : List Stmt) (a : Str) (q : Str) (TT : (XK → Hp → VK → Prop) → Hp → VK → Prop) : Prop :=
  ∀ (f c' : Addr) (s : Shared) (H : Hp) (Q : VK) (tl : XK → Hp → VK → Prop),
    (∀ (W : WX) (pn : List (Addr × Obj)) (xe : Value → Shared → Prop) (p1 p2 : Pos), Takes ((cxOf C8.CX0 X.prog X.w X.K X.mg X.base Ng x sg g cdg X.A X.stack s H C8.E0).tr pn xe) W →
      PE ((cxOf C8.CX0 X.prog X.w X.K X.mg X.base Ng x sg g cdg X.A X.stack s H C8.E0).tr pn xe) (.Call (.Name a p1) [] [] p2) (fun σZ HZ Q => σZ[0]? = some (some (.ref f)) ∧ HZ c' = some (CodeO c' q) ∧ tl (WE W σZ) HZ Q)) →
    H c' = some (CodeO c' q) → TT tl H Q →
    ∃ t, PSs (cxOf C8.CX0 X.prog X.w X.K X.mg X.base Ng x sg g cdg X.A X.stack s H C8.E0).nox bg t ∧ t { nx := fun _ H' => Q .non H', rt := Q } (L2.start Ng [.ref f]) H
theorem pe_lamS {T : List (Addr × Str)} {TT : (XK → Hp → VK → Prop) → Hp → VK → Prop} {x a : Str} {g c P : Addr} {k : Nat} {stg : Stmt} {fdg : FuncData} {Ng : List Str}
    {params : Arguments} {body : Expr} {scope : Scope} {t : XK → TE} {p lpos pos : Pos} (hg : Gl X x) (hm : X.mg x = some (.ref g)) (Fg : Fun X.K x x stg g fdg) (hb : L2.Binds X.K fdg [a] []) (Sg : FnScope Ng [a] (defScope stg)) (hNg : Ng[0]? = some a) (hva : Vis (defScope stg) a)
    (hG : ∀ cdv, GivesS X Ng x (defScope stg) g cdv (defBody stg) a (X.env.qual ++ "<lambda>") TT)
    (TB : TabB X.base X.mg c P) (hcode : X.env.code = .ref c) (hmT : (P, X.env.qual ++ "<lambda>") ∈ T) (hu : ∀ p ∈ T, p.1 = P → p.2 = X.env.qual ++ "<lambda>") (hr : Room (k + 2) X.A) (L : LamS X.env.scope scope) (hdef : defaultsOf params X.env = ([], []))
    (hbind : ∀ (q : Str) (cl : List (Str × Addr)) (pm cv ctv : Value), bindArgs (PySem.W.kla_fn "<lambda>" q params body scope cl pm cv ctv) ⟨[], []⟩ = pure [])
    (hbody : ∀ (E : XK) (A : Around) (outer : List Env) (s : Shared) (H : Hp) (f c' : Addr), Room k (A.deeper (lamEnv X scope s.heap.objs.size f c')) → PE (lamCx X A outer s H E scope f c') body (t E))
    (hdb : (x == ("__debug__" : Str)) = false := by decide) (hd : (a == ("__debug__" : Str)) = false := by decide) (hcd : (a == ("__classdict__" : Str)) = false := by decide) :
    PE X (.Call (.Name x p) [.Lambda params body scope lpos] [] pos) (tLam T TT t) := by
  obtain ⟨oc, od, kV, doc, pm, an, cdv, ct, osl, rfl, lk, hcg⟩ := Fg.ex
  have hk := Fg.kp
  refine ⟨fun pins s σ H Q I h => ?_⟩
  obtain ⟨hT, h⟩ := h
  refine wpAny_Call_Name_kw (ld_glob I hg hm ?_ hdb)
  refine PySem.W.callWith_K (h₀ := X.base) I.ok.mod.kin hk ?_ (by rfl) (by rfl)
  show wpAny _ _ (spliced ((false, eval (.Lambda params body scope lpos) X.env) :: backTo pos (starEach [] X.env))) _ _ s
  refine Calls.spliced_cons (lam_make2 I TB hcode hmT hu hT hdef (L.has I.ok) fun f c' pm' ctv H1 s' I1 eN T1 hf hfn hfr hco => ?_)
  refine Calls.spliced_nil ⟨I1.kIn, ?_⟩
  have rc : codeAny (model X.prog X.w) X.A (.call (.ref g) ⟨[.ref f], []⟩) (CR C8.CX0 X.stack X.prog X.w H1 s' Q C8.E0) s' := by
    refine run_ofS (N := Ng) (ps := [a]) (us := [.ref f]) (vs := [.ref f]) lk hcg Sg hr I1.env0 (hb s' [.ref f] I1.kIn rfl) (.cons rfl .nil) rfl fun hr' => ?_
    obtain ⟨t', ht', hq'⟩ := hG cdv f c' s' H1 Q (fun E H' Q' => t E σ H' Q') (fun W pn xe p1 p2 tk => pe_actS (i := 0) I1 L hf hfn hfr (hbind _ _ _ _ _) tk hr' (fun E A outer s H hr2 => hbody E A outer s H f c' hr2) hNg hva hd hcd) hco (h H1 eN T1)
    exact ⟨t', ht'.nox, hq'⟩
  refine wpAny_call (codeAny_mono rc fun r s2 hq => ?_)
  cases r with
  | error e => exact (show False from hq).elim
  | ok fl =>
    cases fl with
    | ret u => exact I1.after hq
    | next => exact False.elim hq
    | brk => exact False.elim hq
    | cont => exact False.elim hq
end
theorem extN_l {K : PySem.W.Frag} {H H' : Hp} {a : Addr} {xs : List V} (e : LamX.ExtN H H') (h : SqL K H a xs) : SqL K H' a xs := by
  rcases h with (h | ⟨o, h⟩) | h
  · exact .inl (.inl (e _ _ h fun _ z => nomatch z))
  · exact .inl (.inr ⟨o, e _ _ h fun _ z => nomatch z⟩)
  · exact .inr h
theorem extN_t {K : PySem.W.Frag} {H H' : Hp} {a : Addr} {xs : List V} (e : LamX.ExtN H H') (h : SqT K H a xs) : SqT K H' a xs := by
  rcases h with (h | ⟨o, h⟩) | h
  · exact .inl (.inl (e _ _ h fun _ z => nomatch z))
  · exact .inl (.inr ⟨o, e _ _ h fun _ z => nomatch z⟩)
  · exact .inr h
theorem Drw.monoN {H H' : Hp} {dr : Addr} (h : Drw H dr) (e : LamX.ExtN H H') : Drw H' dr := by
  obtain ⟨cl, ns, h1, h2⟩ := h
  refine ⟨cl, ns, e _ _ h1 (fun ps z => ?_), e _ _ h2 fun _ z => nomatch z⟩
  unfold DrawO at z
  cases z
theorem hp_monoL {H H' : Hp} {a : Addr} {xs : List V} (e : LamX.ExtN H H') (h : H a = some (.lst xs)) : H' a = some (.lst xs) := e _ _ h fun _ z => nomatch z
section
variable {X : Cx}
end
theorem walk_W {l : PySem.W.OpenLaw} {n k : Nat} {q : Program} {loose : List Str} {XP : (Str → Option Value) → Heap → Prop} {YP : World → Heap → Prop} {d : DefRec} {K : Params → PySem.W.Frag} {CX : World → CXT} {x : Str}
    (hn : l.most = some n) (hn2 : n ≤ sizeLine) (hdf : d.params.defaults = []) (hr : Room k callerA) (hY : ∀ (w : World) (h : Heap), YP w h → (K w.params).In h)
    (F : ∀ (w : World) (mg : Str → Option Value) (fa : Addr) (h : Heap), (K w.params).In h → h.Ns mainGlobals mg → mg d.name = some (.ref fa) →
      (∀ (y : Str) (c P : Addr) (dr : DefRec), (recsOf q).find? (fun e => e.name == y) = some dr → PySem.W.tabIn (K w.params) y = some (c, P) → PySem.W.CodeHd h c P ∧ h.get? P = some { cls := .none, data := .fields #[] }) → LamX.LawAtS l w (K w.params) (CX w) k n x mg fa h)
    (hCX : ∀ (w : World) (H : Hp) (s : Shared) (e : Value) (s' : Shared), CX w [] H s (fun _ _ _ => False) e s' → False) :
    PySem.W.WalkO q loose XP YP l.row.toRowW d [] (fun f vs => PySem.call f vs) := by
  refine Att.attach_callB hn hdf fun w s0 s1 mg mb fa o pm cd doc a vs ns G Y ho hd hcd hmg hobj hints hlen hbits hg => ?_
  have KX := hY w _ Y
  obtain ⟨fd, cs, sp, hT, nT, C, hb, hsp, hF⟩ := F w mg fa _ KX G.T.g hmg (fun y c P dr h1 h2 => PySem.W.tab_of G.T KX h1 h2)
  exact LamX.law_callTs KX G.T.g G.T.b G.T.builtins G.T.nolimit hg hT nT C G.T.bmain hobj hints (Nat.le_trans hlen hn2) hr hF hb (fun H hH hS => hsp H a ns hlen hbits hH hS) fun H e s' => hCX w H s1 e s'
theorem binds_df {K : PySem.W.Frag} {fd : FuncData} {ps : List Str} {T : Addr} {o : Obj} {its : Array Value} {n : Nat} (lT : K.lookup T = some o) (oT : o.data = .seq its n)
    (h : ∀ us : List Value, us.length = ps.length → ∃ k, bindArgs fd ⟨us, []⟩ = seqItems? (.ref T) >>= k ∧ k (some its) = pure (ps.zip us)) : Binds K fd ps [] := fun s us X hl => by
  rw [List.append_nil] at hl ⊢
  obtain ⟨k, e1, e2⟩ := h us hl
  refine BindsTo.of_looks fun M => ?_
  rw [e1]
  exact looks_items X lT oT (.of_pure e2)
theorem kbn_of {K : PySem.W.Frag} {fd : FuncData} {ps ks : List Str} {n : Nat} (h : ∀ us ws : List Value, us.length = n → ws.length = ks.length → bindArgs fd ⟨us, ks.zip ws⟩ = pure (ps.zip (us ++ ws))) : KBn K fd ps n ks (fun us ws => us ++ ws) (fun vs zs => vs ++ zs) :=
  ⟨fun s us ws _ h1 h2 => .of_eq (h us ws h1 h2), fun r1 r2 => r1.append r2⟩
theorem funD_of {K : PySem.W.Frag} {x : Str} {st : Stmt} {f D : Addr} {kws : List (Str × V)} {oc : Value} {od an : Option Addr} {osl : Array (Option Value)} {doc pm cdv ct : Value}
    (l : K.lookup f = some ⟨oc, od, .func (PySem.W.fnOf x x (defArgs st) (defBody st) (defScope st) .none (.ref D) doc pm an cdv ct), osl⟩) (c : PySem.W.codeIn K cdv x = true) (k : PySem.W.keepIn K (.ref f) = true) (hk : ∀ q ∈ kws, ∃ u, PySem.W.nsIn K D q.1 = some (some u) ∧ RelV q.2 u) :
    FunD K x x (defArgs st) (defBody st) (defScope st) [] kws f (PySem.W.fnOf x x (defArgs st) (defBody st) (defScope st) .none (.ref D) doc pm an cdv ct) :=
  ⟨⟨oc, od, .none, .ref D, doc, pm, an, cdv, ct, osl, rfl, l, c, .inl ⟨rfl, rfl⟩, .inr ⟨D, rfl, hk⟩⟩, k⟩
theorem funA_of {K : PySem.W.Frag} {x qual : Str} {st : Stmt} {f : Addr} {oc : Value} {od an : Option Addr} {osl : Array (Option Value)} {dV kV doc pm cdv ct : Value}
    (l : K.lookup f = some ⟨oc, od, .func (PySem.W.fnOf x qual (defArgs st) (defBody st) (defScope st) dV kV doc pm an cdv ct), osl⟩) (c : PySem.W.codeIn K cdv qual = true) (k : PySem.W.keepIn K (.ref f) = true) :
    FunA K x qual st f (PySem.W.fnOf x qual (defArgs st) (defBody st) (defScope st) dV kV doc pm an cdv ct) := ⟨⟨oc, od, dV, kV, doc, pm, an, cdv, ct, osl, rfl, l, c⟩, k⟩
theorem funC_of {K : PySem.W.Frag} {x qual : Str} {st : Stmt} {f cc : Addr} {oc : Value} {od an : Option Addr} {osl : Array (Option Value)} {dV kV doc pm ct : Value}
    (l : K.lookup f = some ⟨oc, od, .func (PySem.W.fnOf x qual (defArgs st) (defBody st) (defScope st) dV kV doc pm an (.ref cc) ct), osl⟩) (c : PySem.W.codeIn K (.ref cc) qual = true) (k : PySem.W.keepIn K (.ref f) = true) :
    FunC K x qual st f (PySem.W.fnOf x qual (defArgs st) (defBody st) (defScope st) dV kV doc pm an (.ref cc) ct) cc := ⟨⟨oc, od, dV, kV, doc, pm, an, ct, osl, rfl, l, c⟩, k⟩
end Wk

set_option Elab.async false
set_option linter.all false
set_option maxRecDepth 100000
set_option maxHeartbeats 4000000
namespace Wk
open PySem PySem.Spec PyProof.Rows L2
def Rests (p : Int) (ns : List Int) : Prop := ∀ n ∈ ns, 0 ≤ n ∧ n < p
instance {p : Int} {ns : List Int} : Decidable (Rests p ns) := by unfold Rests; infer_instance
def gSqs (K : PySem.W.Frag) (n : Nat) (t : TGs) : TG := fun v σ H Q => ∃ a xs, v = .ref a ∧ Sq K H a xs ∧ xs.length = n ∧ t xs σ H Q
theorem pg_sqsK {X : Cx} (K : PySem.W.Frag) (e : X.K = K) {es : List Expr} {k : Nat} {t : TGs} {n : Nat} {pos : Pos} (hc : X.calm = true) (h : PGs X es t)
    (hn : (assignEach es X.env).length = n := by rfl) (hst : (assignEach es X.env).findIdx? (·.1) = none := by rfl) : PG X (.Tuple es k pos) (gSqs K n t) := by
  subst e
  refine ⟨fun pins s σ H v u Q I r hw => ?_⟩
  obtain ⟨a, xs, e1, hq, hl, hw⟩ := hw
  rcases hq with hq | hq
  · exact (pg_lst hc h hn hst).run pins s σ H v u Q I r ⟨a, xs, e1, hq, hl, hw⟩
  · exact (pg_tup hc h hn hst).run pins s σ H v u Q I r ⟨a, xs, e1, hq, hl, hw⟩
section
variable {σ σ' : L2.St} {H : Hp} {K : PySem.W.Frag} {Q : L2.St → Hp → Prop} {g : TG} {gs : TGs} {te : TE} {D : Ends}
end
section
variable {σ : L2.St} {H H0 H' : Hp} {Q : VK} {te : TE} {K : PySem.W.Frag} {p : Addr} {ds : List PyData}
theorem pe_bmK {X : Cx} (K : PySem.W.Frag) (eK : X.K = K) {o e : Expr} {es : List Expr} {to : TE} {t : TA} {name : Str} {apos cpos : Pos} {T id : String} {r : V → List V → Hp → VK → Prop} (pa : PlainAttrs T) (slot : Slot T name id) (hty : typeOf (.builtin id) = pure (.type "method_descriptor")) (hm : MtR X id r) (ho : PE X o to) (ha : PA X (e :: es) t)
    (hbase : attributeBase o name X.env (eval o X.env) = eval o X.env := by rfl)
    (hfew : ((backTo cpos (starEach (e :: es) X.env)).all (fun x => !x.1) && (backToKw cpos (keywordEach [] X.env)).all (fun x => x.1.isSome)
      && decide ((e :: es).length + ([] : List Keyword).length + (if ([] : List Keyword).isEmpty then 0 else 1) < 30)) = true := by rfl)
    (hline : (apos.endLine == cpos.line) = true := by rfl) (hs : starEach (e :: es) X.env = (false, eval e X.env) :: starEach es X.env := by rfl) (hplain : (backTo cpos (starEach es X.env)).any (·.1) = false := by rfl) :
    PE X (.Call (.Attribute o name apos) (e :: es) [] cpos) (tBM K T r to t) := by
  subst eK
  exact pe_bm pa slot hty hm ho ha hbase hfew hline hs hplain
end
section
variable {σ : L2.St} {H : Hp} {Q : VK} {te : TE} {K : PySem.W.Frag} {J : It} {n : Nat} {G : Hp → Prop} {vs : List Nat} {R : Nat → PyData → Prop}
end
end Wk

set_option Elab.async false
set_option linter.all false
set_option maxRecDepth 100000
set_option maxHeartbeats 4000000
namespace Wk
theorem primes_bd {p : Int} (h : p ∈ primesL) : 3 ≤ p ∧ p ≤ 61 := by
  unfold primesL at h
  simp only [List.mem_cons, List.not_mem_nil, or_false] at h
  omega
end Wk

set_option Elab.async false
set_option linter.all false
set_option maxRecDepth 100000
set_option maxHeartbeats 4000000
namespace Wk
open PySem PySem.Spec PyProof.Rows L2 LamX
structure LamD (N : List Str) (sc scope : Scope) : Prop where
  kind : scope.kind = .function
  co : scope.isCoroutine = false
  gen : scope.isGenerator = false
  own : ∀ y ∈ scope.names, (y.2 = .local → y.1 ∉ N) ∧ y.2 ≠ .cell
  free : ∀ y ∈ scope.names, y.2 = .free → sc.names.lookup y.1 = some .cell ∨ sc.names.lookup y.1 = some .free
def lamDB (N : List Str) (sc scope : Scope) : Bool :=
  decide (scope.kind = .function) && !scope.isCoroutine && !scope.isGenerator && scope.names.all fun y => (!decide (y.2 = .local) || decide (y.1 ∉ N)) && !decide (y.2 = .cell) && (!decide (y.2 = .free) || decide (sc.names.lookup y.1 = some .cell) || decide (sc.names.lookup y.1 = some .free))
theorem lamD_by {N : List Str} {sc scope : Scope} (h : lamDB N sc scope = true) : LamD N sc scope := by
  unfold lamDB at h
  simp only [Bool.and_eq_true, Bool.or_eq_true, Bool.not_eq_true', decide_eq_true_eq, decide_eq_false_iff_not, List.all_eq_true] at h
  obtain ⟨⟨⟨h1, h2⟩, h3⟩, h4⟩ := h
  refine ⟨h1, h2, h3, fun y hy => ⟨fun e => ?_, (h4 y hy).1.2⟩, fun y hy e => ?_⟩
  · rcases (h4 y hy).1.1 with z | z
    · exact absurd e z
    · exact z
  · rcases (h4 y hy).2 with (z | z) | z
    · exact absurd e z
    · exact .inl z
    · exact .inr z
theorem LamD.has {X : Cx} {scope : Scope} (L : LamD X.N X.env.scope scope) (ok : X.Ok) : ∀ y ∈ scope.names, y.2 = .free → ∃ c, X.env.cells.lookup y.1 = some c := fun y hy e => by
  rcases L.free y hy e with k | k
  · exact ok.has _ (.inl k)
  · exact ok.has _ (.inr k)
section
variable {X : Cx} {pins : List (Addr × Obj)} {σ : L2.St} {H HZ : Hp} {s s1 : Shared}
abbrev lamO (X : Cx) (params : Arguments) (body : Expr) (scope : Scope) (tp : Addr) (doc pm : Value) (c' : Addr) (ctv : Value) : Obj := PySem.W.kdv_obj "<lambda>" (X.env.qual ++ "<lambda>") params (.expr body) scope (cloFrom X.env.cells scope.names []) (.ref tp) doc pm c' ctv
theorem lam_makeD {T : List (Addr × Str)} {c P : Addr} {params : Arguments} {body : Expr} {scope : Scope} {pos : Pos} {d : Int} {kd : Nat} {pd : Pos} {Q : Value → Shared → Prop} (I : Inv X pins σ H s) (TB : TabB X.base X.mg c P) (hcode : X.env.code = .ref c)
    (hm : (P, X.env.qual ++ "<lambda>") ∈ T) (hu : ∀ p ∈ T, p.1 = P → p.2 = X.env.qual ++ "<lambda>") (hT : Tabs T H) (hdef : params.defaults = [.Constant (.int d) kd pd]) (hkd : params.kw_defaults = []) (hfree : ∀ y ∈ scope.names, y.2 = .free → ∃ c, X.env.cells.lookup y.1 = some c)
    (h : ∀ (f c' tp : Addr) (doc pm ctv : Value) (H1 : Hp) (s' : Shared), Inv X pins σ H1 s' → ExtN H H1 → Tabs T H1 → H1 tp = some (.tup [.int d]) →
      s'.heap.get? f = some (lamO X params body scope tp doc pm c' ctv) → H1 f = none → f ∉ frs X.stack → H1 c' = some (CodeO c' (X.env.qual ++ "<lambda>")) → Q (.ref f) s') :
    wpAny (model X.prog X.w) X.A (eval (.Lambda params body scope pos) X.env) Q X.xe s := by
  refine PySem.W.kdv_lam (by rw [hdef]; rfl) hkd ?_
  rw [hdef]
  refine PySem.W.kdv_all1 (thn ((pe_int (X := X)).run pins s σ H (fun v H1 => v = .int d ∧ H1 = H) I ⟨rfl, rfl⟩) fun u s0 ⟨v, H0, I0, r0, e0⟩ => PySem.W.kdv_all0 ?_)
  obtain ⟨e0, e1⟩ := e0
  subst e0
  subst e1
  rw [makeFunction_eq]
  simp only [List.zip_nil_right, List.filterMap_nil, List.isEmpty_nil, if_true, pure_bind, List.isEmpty_cons, Bool.false_eq_true, if_false]
  refine wpAny_bind (wpAny_newTextTuple ?_)
  have nT : H0 s0.heap.objs.size = none := I0.hok.fresh (Nat.le_refl _)
  have I2 : Inv X pins σ (upd H0 s0.heap.objs.size (.tup [.int d])) { s0 with heap := s0.heap.push (PySem.W.kdv_tup [u]), toks := s0.toks } :=
    I0.laid (t' := s0.toks) (fun b o e => Heap.get?_push_of_some _ e) (Nat.le_refl _) ⟨by show 1 ≤ sizeLine; decide, [u], .cons r0 .nil, ⟨_, Heap.get?_push_size _ rfl, rfl, _, rfl⟩⟩
  have sm0 : L2.Same H0 (upd H0 s0.heap.objs.size (.tup [.int d])) := same_new nT
  have hT2 : Tabs T (upd H0 s0.heap.objs.size (.tup [.int d])) := hT.ext sm0
  have eN0 : ExtN H0 (upd H0 s0.heap.objs.size (.tup [.int d])) := ExtN.of sm0
  have eT : upd H0 s0.heap.objs.size (.tup [.int d]) s0.heap.objs.size = some (.tup [.int d]) := upd_same
  generalize upd H0 s0.heap.objs.size (.tup [.int d]) = H2 at I2 hT2 eN0 eT
  generalize s0.heap.objs.size = tp at eT ⊢
  generalize ({ s0 with heap := s0.heap.push (PySem.W.kdv_tup [u]), toks := s0.toks } : Shared) = s2 at I2 ⊢
  obtain ⟨ps, hP, ht, ha⟩ := hT2 _ hm
  have bP : s2.heap.BuiltinsAt X.mg P := TB.bm.keeps I2.bk
  have hP' : s2.heap.get? P = some { cls := .none, data := .fields ps } := I2.hok P _ hP
  have nofr : ∀ f, s2.heap.objs.size ≤ f → f ∉ frs X.stack := fun f hf z => by
    rcases List.mem_cons.mp (I2.stkSub _ z) with e | e
    · have h1 := I2.lt
      rw [← e] at h1
      exact Nat.lt_irrefl _ (Nat.lt_of_lt_of_le h1 hf)
    · exact I2.nofs hf e
  cases hc : codeAmong pos ps.toList with
  | none =>
    refine PySem.W.kdv_makeTail (mg := X.mg) (c := c) (P := P) (ps := ps) (closure_ok hfree) I2.ok.glob (I2.mod.glob.keeps I2.bk) hcode (TB.code.keeps I2.bk) hP' ht hc TB.gP bP fun c' ctv doc h' tk hx hge hlt hrec htb => ?_
    obtain ⟨c2, oc, vs, t, e2, hoc, hd, hv⟩ := hrec
    cases e2
    have hsz : s2.heap.objs.size ≤ h'.objs.size := Nat.le_trans hge (Nat.le_of_lt hlt)
    have nC : H2 c' = none := I2.hok.fresh hge
    have I1 := inv_table (t' := tk) (more := #[rawInt pos.line, rawInt pos.col, .ref c']) (h' := h'.push (lamO X params body scope tp doc ((X.mg "__name__").getD .none) c' ctv)) I2 hP
      (fun b o hb e => Heap.get?_push_of_some _ (hx b o hb e)) (Heap.get?_push_of_some _ htb) hge ⟨oc, vs, t, Heap.get?_push_of_some _ hoc, hd, hv⟩
    have hE : ExtN H2 (upd (upd H2 P (.tbl (ps ++ #[rawInt pos.line, rawInt pos.col, .ref c']))) c' (CodeO c' (X.env.qual ++ "<lambda>"))) := fun b o e n => by
      rw [upd_ne (ne_of_none e nC), upd_ne (fun z => n ps (Option.some.inj (e.symm.trans (by rw [z]; exact hP))))]
      exact e
    have eL : (ps ++ #[rawInt pos.line, rawInt pos.col, .ref c']).toList = ps.toList ++ [rawInt pos.line, rawInt pos.col, .ref c'] := by simp
    refine h h'.objs.size c' tp doc ((X.mg "__name__").getD .none) ctv _ _ I1 (eN0.trans hE) (fun p hp => ?_) (hE _ _ eT fun _ z => nomatch z) (Heap.get?_push_size _ rfl) ?_ (nofr _ hsz) upd_same
    · by_cases hb : p.1 = P
      · rw [hu p hp hb, hb]
        refine ⟨_, by rw [upd_ne (ne_of_none hP nC), upd_same], by rw [eL]; exact PySem.TriplesOk_snoc _ _ _ _ ht, fun p' cv hcv => ?_⟩
        rw [eL] at hcv
        rcases among_app _ ht hcv with z | z
        · obtain ⟨c0, e1, e2⟩ := ha p' cv z
          exact ⟨c0, e1, hE _ _ e2 codeO_ne⟩
        · exact ⟨c', z, upd_same⟩
      · obtain ⟨ps', a1, a2, a3⟩ := hT2 p hp
        refine ⟨ps', by rw [upd_ne (ne_of_none a1 nC), upd_ne hb]; exact a1, a2, fun p' cv hcv => ?_⟩
        obtain ⟨c0, e1, e2⟩ := a3 p' cv hcv
        exact ⟨c0, e1, hE _ _ e2 codeO_ne⟩
    · have n1 : h'.objs.size ≠ c' := Nat.ne_of_gt hlt
      have n2 : h'.objs.size ≠ P := Nat.ne_of_gt (Nat.lt_of_lt_of_le (Heap.lt_size hP') hsz)
      rw [upd_ne n1, upd_ne n2]
      exact I2.hok.fresh hsz
  | some cv =>
    obtain ⟨c', e, hco⟩ := ha pos cv hc
    subst e
    refine PySem.W.kdv_makeTailHit (mg := X.mg) (c := c) (P := P) (ps := ps) (closure_ok hfree) I2.ok.glob (I2.mod.glob.keeps I2.bk) hcode (TB.code.keeps I2.bk) hP' ht hc bP fun ctv doc h' tk hx hsz => ?_
    have I1 : Inv X pins σ H2 { s2 with heap := h'.push (lamO X params body scope tp doc ((X.mg "__name__").getD .none) c' ctv), toks := tk } := I2.kept fun b o e => Heap.get?_push_of_some _ (hx b o e)
    exact h h'.objs.size c' tp doc ((X.mg "__name__").getD .none) ctv H2 _ I1 eN0 hT2 eT (Heap.get?_push_size _ rfl) (I2.hok.fresh hsz) (nofr _ hsz) hco
theorem lam_startD {A : Around} {outer : List Env} {E : XK} {scope : Scope} {f c' : Addr} {h₁ : Heap} {tk : Nat} {mm : Str → Option Value} (I : Inv X pins σ H s) (L : LamD X.N X.env.scope scope) (e0 : Env0 X.prog X.w X.K X.mg X.base A outer s1 HZ) (hd : A.handled = none)
    (un : Un (frs X.stack) [] H HZ s.heap s1.heap) (hns : h₁.Ns s1.heap.objs.size mm) (kp : ∀ b o, s1.heap.get? b = some o → h₁.get? b = some o) :
    Inv (lamCx X A outer s1 HZ E scope f c') [] σ HZ { s1 with heap := h₁, toks := tk } := by
  have hfree := L.has I.ok
  have cm : ∀ {y c}, (cloFrom X.env.cells scope.names []).lookup y = some c → X.env.cells.lookup y = some c := fun {y c} e => by
    rcases cloFrom_mem (PySem.mem_of_lookup e) with hm | ⟨h1, h2⟩
    · cases hm
    · obtain ⟨c1, hc⟩ := hfree _ h1 rfl
      have hc : X.env.cells.lookup y = some c1 := hc
      have e2 : c = c1 := by
        rw [h2, hc] <;> rfl
      rw [e2]
      exact hc
  have look : ∀ {y}, scope.names.lookup y = some .free → ∃ c, (cloFrom X.env.cells scope.names []).lookup y = some c := fun {y} hl => by
    have hy : (y, NameKind.free) ∈ scope.names := PySem.mem_of_lookup hl
    exact mem_lookup (cloFrom_has (cells := X.env.cells) (acc := []) hy)
  have cellK : ∀ {c : Addr} {v : Option Value}, H c = none → s.heap.IsCell c v → h₁.IsCell c v := fun {c v} n ⟨o, ho, hd⟩ => by
    obtain ⟨sl, q⟩ := un.any ho n (by simp)
    exact ⟨_, kp _ _ q, hd⟩
  have noA : ∀ b : Addr, b ∉ (lamCx X A outer s1 HZ E scope f c').ex := fun b z => absurd (show b ∈ ([] : List Addr) from z) (by simp)
  refine ⟨⟨e0.mod, L.kind, rfl, rfl, Nat.le_refl _, fun y z c e1 e2 => I.ok.inj y z c (cm e1) (cm e2), fun y hy => ?_, fun y c z _ => ?_, fun _ => hd, Around.frames_deeper e0.frames, .inr ⟨rfl, rfl⟩, fun b z => absurd z (noA b), e0.bs, e0.bsz, fun b _ _ => noA b,
      fun b z => absurd z (noA b), e0.funs, e0.frf⟩,
    rfl, e0.bare, Un.kept kp, ⟨_, hns, fun i y v e1 e2 e3 => ?_⟩, fun y c e => ?_, e0.hok.fresh (Nat.le_refl _), fun y c e => ?_, fun q hq => absurd (show q ∈ ([] : List (Addr × Obj)) ++ [] from hq) (by simp), e0.hok.kept kp, I.len⟩
  · have hy : scope.names.lookup y = some .cell ∨ scope.names.lookup y = some .free := hy
    rcases hy with hy | hy
    · exact absurd rfl (L.own _ (PySem.mem_of_lookup hy)).2
    · exact look hy
  · have z : false = true := z
    cases z
  · have e3 : Vis scope y := e3
    rcases e3 with k | k | k
    · exact absurd (List.mem_of_getElem? (show X.N[i]? = some y from e1)) ((L.own _ (PySem.mem_of_lookup k)).1 rfl)
    · exact absurd rfl (L.own _ (PySem.mem_of_lookup k)).2
    · obtain ⟨m, hn, hl⟩ := I.loc
      have hvis : Vis X.env.scope y := (L.free _ (PySem.mem_of_lookup k) rfl).elim (fun k => .inr (.inl k)) (fun k => .inr (.inr k))
      obtain ⟨w', r, q⟩ := hl i y v e1 e2 hvis
      obtain ⟨c2, h2⟩ := look k
      refine ⟨w', r, .inr ⟨.inr k, c2, h2, ?_⟩⟩
      have c1 := cm h2
      rcases q with ⟨k', _⟩ | ⟨_, c3, e', z⟩
      · have k' : X.env.scope.names.lookup y = some .local := k'
        rcases L.free _ (PySem.mem_of_lookup k) rfl with k2 | k2 <;> rw [show X.env.scope.names.lookup y = _ from k2] at k' <;> cases k'
      · rw [c1] at e'
        cases e'
        exact cellK (I.freeC y _ c1) z
  · obtain ⟨w', z⟩ := I.cell y c (cm e)
    exact ⟨w', cellK (I.freeC y c (cm e)) z⟩
  · obtain ⟨v, o, ho, hd⟩ := I.cell y c (cm e)
    exact un.free c o ho (I.freeC y c (cm e)) (by simp)
theorem pe_actD {CXg : CXT} {Eg : XK} {Ng : List Str} {qg : Str} {sg : Scope} {g f c' tp : Addr} {cdg doc pm ctv : Value} {params : Arguments} {body : Expr} {scope : Scope} {k i : Nat} {a b1 : Str} {d : Int} {pn : List (Addr × Obj)} {xe : Value → Shared → Prop} {W : WX} {tb : XK → TE} {p1 p2 : Pos}
    (I : Inv X pins σ H s) (L : LamD X.N X.env.scope scope) (hf : s.heap.get? f = some (lamO X params body scope tp doc pm c' ctv)) (hfn : H f = none) (hfr : f ∉ frs X.stack) (htp : H tp = some (.tup [.int d]))
    (hbind : ∀ fd : FuncData, fd = PySem.W.kdv_fn "<lambda>" (X.env.qual ++ "<lambda>") params (.expr body) scope (cloFrom X.env.cells scope.names []) (.ref tp) doc pm (.ref c') ctv → ∃ kk, bindArgs fd ⟨[], []⟩ = seqItems? fd.defaults >>= kk ∧ ∀ u : Value, kk (some #[u]) = pure [(b1, u)]) (hb1 : scope.names.lookup b1 = some .local)
    (tk : Takes ((cxOf CXg X.prog X.w X.K X.mg X.base Ng qg sg g cdg X.A X.stack s H Eg).tr pn xe) W) (hr : Room (k + 1) (X.A.deeper (envOfC qg sg s.heap.objs.size g cdg)))
    (hbody : ∀ (E : XK) (A : Around) (outer : List Env) (s : Shared) (H : Hp), Room k (A.deeper (lamEnv X scope s.heap.objs.size f c')) → PE (lamCx X A outer s H E scope f c') body (tb E))
    (hN : Ng[i]? = some a) (hv : Vis sg a) (hd : (a == ("__debug__" : Str)) = false := by decide) (hcd : (a == ("__classdict__" : Str)) = false := by decide) :
    PE ((cxOf CXg X.prog X.w X.K X.mg X.base Ng qg sg g cdg X.A X.stack s H Eg).tr pn xe) (.Call (.Name a p1) [] [] p2)
      (fun σZ HZ Q => σZ[i]? = some (some (.ref f)) ∧ HZ c' = some (CodeO c' (X.env.qual ++ "<lambda>")) ∧ tb (WE W σZ) σ HZ Q) := by
  refine ⟨fun pinsZ sZ σZ HZ Q IZ h => ?_⟩
  obtain ⟨hs, hc, ht⟩ := h
  refine wpAny_Call_Name_kw (thn ((pe_var (pos := p1) (i := i) hN hv hd hcd).run pinsZ sZ σZ HZ (fun v H1 => v = .ref f ∧ H1 = HZ) IZ ⟨.ref f, hs, rfl, rfl⟩) fun u s1 ⟨v, H1, I1, r1, q1⟩ => ?_)
  obtain ⟨ev, eH⟩ := q1
  subst ev
  rw [eH] at I1
  obtain rfl : u = Value.ref f := r1
  have of1 : s1.heap.get? f = some (lamO X params body scope tp doc pm c' ctv) := I1.base.keep f _ hf hfn hfr (fun z => nomatch (show f ∈ ([] : List Addr) from z))
  refine PySem.W.callWith_F0 ⟨_, _, _, _, of1⟩ ?_
  have un : Un (frs X.stack) [] H HZ s.heap s1.heap := I1.base
  have htp1 : HZ tp = some (.tup [.int d]) := un.tups tp _ htp
  obtain ⟨⟨oc, vs, t, hoc, hdc, hvc⟩, _, _⟩ := I1.hok c' _ hc
  obtain ⟨_, its, rv, ot, hot, hcl, nt, hdt⟩ := I1.hok tp _ htp1
  obtain ⟨w1, rfl, _⟩ := vals1 rv
  have rc : codeAny (model X.prog X.w) (X.A.deeper (envOfC qg sg s.heap.objs.size g cdg)) (.call (.ref f) ⟨[], []⟩) (CR (L2.CX X.prog X.w) (envOfC qg sg s.heap.objs.size g cdg :: X.stack) X.prog X.w HZ s1 Q (WE W σZ)) s1 := by
    obtain ⟨kk, hk1, hk2⟩ := hbind _ rfl
    refine PySem.W.kla_callFunE hr.depth of1 rfl L.co L.gen rfl ⟨c', oc, vs, t, rfl, hoc, hdc, hvc⟩ (BindsTo.of_defaults (T := tp) (items := #[w1]) rfl hot hdt hk1 (hk2 w1) _ _ _ _ ?_)
    refine wpAny_newFunctionEnv (fun y hy => (L.own y hy).2) (fun y hy => by rw [List.mem_singleton.mp hy]; exact hb1) (fun h1 hns hsb => ⟨I1.nolimit.fresh _ hsb, ?_⟩) L.kind
    show codeAny _ _ (.expr body (lamEnv X scope s1.heap.objs.size f c')) _ _
    have kp : ∀ b o, s1.heap.get? b = some o → h1.get? b = some o := fun b o e => hsb.extBut b o (Nat.ne_of_lt (Heap.lt_size e)) (Heap.get?_push_of_some _ e)
    have J := lam_startD (A := X.A.deeper (envOfC qg sg s.heap.objs.size g cdg)) (outer := envOfC qg sg s.heap.objs.size g cdg :: X.stack) (E := WE W σZ) (scope := scope) (f := f) (c' := c') (tk := s1.toks + ([(b1, w1)] : List (Str × Value)).length) I L I1.env0 hr.hd un hns kp
    refine PySem.W.kla_codeExpr (wpAny_mono ((hbody _ _ _ s1 HZ (hr.deeper _)).run [] _ _ HZ Q J ht) (fun v s' hq => ?_) fun e s' hq => hq)
    obtain ⟨w', H', J', rv, q⟩ := hq
    exact ⟨w', H', J'.os, J'.bare, J'.base, J'.hok, rv, q⟩
  refine wpAny_call (codeAny_mono rc fun r s' hq => ?_)
  cases r with
  | error e => exact passAt tk σZ pinsZ HZ s1 e s' I1 hq
  | ok fl =>
    cases fl with
    | ret u => exact I1.after hq
    | next => exact False.elim hq
    | brk => exact False.elim hq
    | cont => exact False.elim hq
theorem pe_lamD {T : List (Addr × Str)} {TT : (XK → Hp → VK → Prop) → Hp → VK → Prop} {x a b1 : Str} {g c P : Addr} {k : Nat} {stg : Stmt} {fdg : FuncData} {Ng : List Str} {d : Int} {kd : Nat} {pd : Pos}
    {params : Arguments} {body : Expr} {scope : Scope} {t : XK → TE} {p lpos pos : Pos} (hg : Gl X x) (hm : X.mg x = some (.ref g)) (Fg : Fun X.K x x stg g fdg) (hb : L2.Binds X.K fdg [a] []) (Sg : FnScope Ng [a] (defScope stg)) (hNg : Ng[0]? = some a) (hva : Vis (defScope stg) a)
    (hG : ∀ cdv, GivesS X Ng x (defScope stg) g cdv (defBody stg) a (X.env.qual ++ "<lambda>") TT)
    (TB : TabB X.base X.mg c P) (hcode : X.env.code = .ref c) (hmT : (P, X.env.qual ++ "<lambda>") ∈ T) (hu : ∀ p ∈ T, p.1 = P → p.2 = X.env.qual ++ "<lambda>") (hr : Room (k + 2) X.A) (L : LamD X.N X.env.scope scope) (hdef : params.defaults = [.Constant (.int d) kd pd]) (hkd : params.kw_defaults = [])
    (hb1 : scope.names.lookup b1 = some .local)
    (hbind : ∀ (q : Str) (cl : List (Str × Addr)) (tp : Addr) (doc pm cv ctv : Value), ∃ kk, bindArgs (PySem.W.kdv_fn "<lambda>" q params (.expr body) scope cl (.ref tp) doc pm cv ctv) ⟨[], []⟩ = seqItems? (.ref tp) >>= kk ∧ ∀ u : Value, kk (some #[u]) = pure [(b1, u)])
    (hbody : ∀ (E : XK) (A : Around) (outer : List Env) (s : Shared) (H : Hp) (f c' : Addr), Room k (A.deeper (lamEnv X scope s.heap.objs.size f c')) → PE (lamCx X A outer s H E scope f c') body (t E))
    (hdb : (x == ("__debug__" : Str)) = false := by decide) (hd : (a == ("__debug__" : Str)) = false := by decide) (hcd : (a == ("__classdict__" : Str)) = false := by decide) :
    PE X (.Call (.Name x p) [.Lambda params body scope lpos] [] pos) (tLam T TT t) := by
  obtain ⟨oc, od, kV, doc, pm, an, cdv, ct, osl, rfl, lk, hcg⟩ := Fg.ex
  have hk := Fg.kp
  refine ⟨fun pins s σ H Q I h => ?_⟩
  obtain ⟨hT, h⟩ := h
  refine wpAny_Call_Name_kw (ld_glob I hg hm ?_ hdb)
  refine PySem.W.callWith_K (h₀ := X.base) I.ok.mod.kin hk ?_ (by rfl) (by rfl)
  show wpAny _ _ (spliced ((false, eval (.Lambda params body scope lpos) X.env) :: backTo pos (starEach [] X.env))) _ _ s
  refine Calls.spliced_cons (lam_makeD I TB hcode hmT hu hT hdef hkd (L.has I.ok) fun f c' tp doc' pm' ctv H1 s' I1 eN T1 htp hf hfn hfr hco => ?_)
  refine Calls.spliced_nil ⟨I1.kIn, ?_⟩
  have rc : codeAny (model X.prog X.w) X.A (.call (.ref g) ⟨[.ref f], []⟩) (CR C8.CX0 X.stack X.prog X.w H1 s' Q C8.E0) s' := by
    refine run_ofS (N := Ng) (ps := [a]) (us := [.ref f]) (vs := [.ref f]) lk hcg Sg hr I1.env0 (hb s' [.ref f] I1.kIn rfl) (.cons rfl .nil) rfl fun hr' => ?_
    obtain ⟨t', ht', hq'⟩ := hG cdv f c' s' H1 Q (fun E H' Q' => t E σ H' Q') (fun W pn xe p1 p2 tk => pe_actD (i := 0) (b1 := b1) I1 L hf hfn hfr htp (fun fd e => by subst e; exact hbind _ _ _ _ _ _ _) hb1 tk hr' (fun E A outer s H hr2 => hbody E A outer s H f c' hr2) hNg hva hd hcd) hco (h H1 eN T1)
    exact ⟨t', ht'.nox, hq'⟩
  refine wpAny_call (codeAny_mono rc fun r s2 hq => ?_)
  cases r with
  | error e => exact (show False from hq).elim
  | ok fl =>
    cases fl with
    | ret u => exact I1.after hq
    | next => exact False.elim hq
    | brk => exact False.elim hq
    | cont => exact False.elim hq
end
section
variable {σ : L2.St} {H H0 H' : Hp} {Q : VK} {K : PySem.W.Frag} {p : Addr} {ds : List PyData} {L : List (Addr × Str)} {TT : (XK → Hp → VK → Prop) → Hp → VK → Prop} {t : XK → TE}
end
end Wk

set_option Elab.async false
set_option linter.all false
set_option maxRecDepth 100000
set_option maxHeartbeats 4000000
namespace Wk
open PySem PySem.Spec PyProof.Rows L2
section
variable {X : Cx} {H : Hp} {Q : VK} {K : PySem.W.Frag} {x y : V} {d e : PyData}
theorem op_eqDK (K : PySem.W.Frag) (eK : X.K = K) {k : Nat} (hr : Room k X.A) : OpR X (compareOp .Eq) (rEqD K) := by
  subst eK
  exact op_eqD (by have := hr.un; omega)
theorem op_neDK (K : PySem.W.Frag) (eK : X.K = K) {k : Nat} (hr : Room k X.A) : OpR X (compareOp .NotEq) (rNeD K) := by
  subst eK
  exact op_neD (by have := hr.un; omega)
end
section
variable {H : Hp} {Q : VK}
end
section
variable {prog : Program} {w : World} {A : Around} {E : Value → Shared → Prop} {s : Shared}
open HT
end
section
variable {X : Cx} {σ : L2.St} {H : Hp} {Q : VK}
end
section
variable {σ : L2.St} {H : Hp} {Q : VK}
end
section
variable {σ : L2.St} {H : Hp} {Q : VK} {ta tb : TE} {R : Int → Int → Hp → Prop}
end
def ShD (n : Nat) (d : PyData) : Prop := d.canLay0 = true ∧ d.depth ≤ n
theorem shaped_of {n : Nat} {d : PyData} (h : ShD n d) (hn : n ≤ 64) : SeqAt.shaped d = true := by
  unfold SeqAt.shaped
  rw [h.1, Bool.true_and]
  exact decide_eq_true (Nat.le_trans h.2 hn)
theorem ShD.int {n : Nat} (i : Int) : ShD n (.int i) := ⟨rfl, Nat.zero_le _⟩
theorem ShD.non {n : Nat} : ShD n .none := ⟨rfl, Nat.zero_le _⟩
theorem ShD.str {n : Nat} {x : Str} (h : PyData.canLay0 (.str x) = true) : ShD n (.str x) := ⟨h, Nat.zero_le _⟩
def ShA (n : Nat) (ds : List PyData) : Prop := PyData.canLayAll0 ds = true ∧ PyData.depthAll ds ≤ n
theorem ShA.nil {n : Nat} : ShA n [] := ⟨rfl, Nat.zero_le _⟩
theorem ShA.cons {n : Nat} {d : PyData} {ds : List PyData} (h : ShD n d) (r : ShA n ds) : ShA n (d :: ds) := by
  refine ⟨?_, Nat.max_le.mpr ⟨h.2, r.2⟩⟩
  show (PyData.canLay0 d && PyData.canLayAll0 ds) = true
  rw [h.1, r.1]
  rfl
end Wk

set_option Elab.async false
set_option linter.all false
set_option maxRecDepth 100000
set_option maxHeartbeats 4000000
namespace Wk
open PySem PySem.Spec PyProof.Rows L2
end Wk

set_option Elab.async false
set_option linter.all false
set_option maxRecDepth 100000
set_option maxHeartbeats 4000000
namespace Wk
open PySem PySem.Spec PyProof.Rows L2 LamX
def noE : Expr := .Constant .none 0 ⟨0, 0, 0, 0⟩
def sSub (n : Nat) : Stmt → Stmt
  | .FunctionDef _ _ b _ _ _ _ _ _ _ => b.getD n (.Pass ⟨0, 0, 0, 0⟩)
  | .For _ _ b _ _ => b.getD n (.Pass ⟨0, 0, 0, 0⟩)
  | .While _ b _ _ => b.getD n (.Pass ⟨0, 0, 0, 0⟩)
  | .If _ b o _ => (b ++ o).getD n (.Pass ⟨0, 0, 0, 0⟩)
  | s => s
def sVal : Stmt → Expr
  | .Assign _ v _ => v
  | .Expr v _ => v
  | .Return (some v) _ => v
  | _ => noE
def eSub (n : Nat) : Expr → Expr
  | .List es _ => es.getD n noE
  | .Call _ es _ _ => es.getD n noE
  | e => e
def LamF (f : Addr) (ob : Obj) : HO := .frz ob (.ext fun h => h.get? f = some ob)
theorem lamF_ne {f : Addr} {ob : Obj} (ps : Array Value) : LamF f ob ≠ .tbl ps := fun z => by
  unfold LamF at z
  cases z
def LamAt (cells : List (Str × Addr)) (q : Str) (le : Expr) (f : Addr) (H : Hp) : Prop := ∃ (params : Arguments) (body : Expr) (scope : Scope) (pos : Pos) (pm : Value) (c' : Addr) (ctv : Value), le = .Lambda params body scope pos ∧
  H f = some (LamF f (PySem.W.kla_obj "<lambda>" q params body scope (cloFrom cells scope.names []) pm c' ctv)) ∧ H c' = some (CodeO c' q)
theorem LamAt.ext {cells : List (Str × Addr)} {q : Str} {le : Expr} {f : Addr} {H H' : Hp} (h : LamAt cells q le f H) (e : ExtN H H') : LamAt cells q le f H' := by
  obtain ⟨params, body, scope, pos, pm, c', ctv, e1, h1, h2⟩ := h
  exact ⟨params, body, scope, pos, pm, c', ctv, e1, e _ _ h1 lamF_ne, e _ _ h2 codeO_ne⟩
section
variable {X : Cx} {pins : List (Addr × Obj)} {σ : L2.St} {H : Hp} {s : Shared}
theorem Inv.track {f : Addr} {ob : Obj} (I : Inv X pins σ H s) (hf : s.heap.get? f = some ob) (F : FpOk X pins H f) : Inv X pins σ (upd H f (LamF f ob)) s := by
  obtain ⟨hn, hL, hfs, h0, hc, hp⟩ := F
  refine ⟨I.ok, I.os, I.bare, ⟨I.base.keep, I.base.slot, fun b o q m hx => ?_, I.base.there, fun b xs q => ?_, fun b o u q => ?_, fun b ps q => ?_⟩, I.loc, I.cell, ?_, fun x c e => ?_, fun p hq => ?_, ?_, I.len⟩
  · have hb : b ≠ f := fun z => by
      subst z
      rcases h0 with z | z
      · exact hx z
      · exact absurd (Heap.lt_size q) (Nat.not_lt.mpr z)
    rw [upd_ne hb]
    exact I.base.free b o q m hx
  · have z := I.base.tups b xs q
    rw [upd_ne (ne_of_none z hn)]
    exact z
  · have z := I.base.frzs b o u q
    rw [upd_ne (ne_of_none z hn)]
    exact z
  · obtain ⟨more, z⟩ := I.base.tbls b ps q
    exact ⟨more, by rw [upd_ne (ne_of_none z hn)]; exact z⟩
  · rw [upd_ne (Ne.symm hL)]
    exact I.free
  · rw [upd_ne (hc x c e)]
    exact I.freeC x c e
  · obtain ⟨h1, h2, h3⟩ := I.pin p hq
    exact ⟨h1, by rw [upd_ne (hp p hq)]; exact h2, h3⟩
  · intro b u q
    by_cases hb : b = f
    · subst hb
      rw [upd_same] at q
      cases q
      exact ⟨hf, hf, ⟨_, hf⟩, fun h1 h2 e st => st _ e⟩
    · rw [upd_ne hb] at q
      exact (I.hok b u q).stay (fun c v _ r => r) (fun c r => by rw [upd_ne (ne_of_none r hn)]; exact r) fun c ys r => by rw [upd_ne (ne_of_none r hn)]; exact r
theorem lam_make3 {T : List (Addr × Str)} {c P : Addr} {params : Arguments} {body : Expr} {scope : Scope} {pos : Pos} {E : Value → Shared → Prop} {Q : Value → Shared → Prop} (I : Inv X pins σ H s) (TB : TabB X.base X.mg c P) (hcode : X.env.code = .ref c)
    (hm : (P, X.env.qual ++ "<lambda>") ∈ T) (hu : ∀ p ∈ T, p.1 = P → p.2 = X.env.qual ++ "<lambda>") (hT : Tabs T H) (hdef : defaultsOf params X.env = ([], [])) (hfree : ∀ y ∈ scope.names, y.2 = .free → ∃ c, X.env.cells.lookup y.1 = some c)
    (h : ∀ (f : Addr) (H1 : Hp) (s' : Shared), Inv X pins σ H1 s' → ExtN H H1 → Tabs T H1 → H f = none → LamAt X.env.cells (X.env.qual ++ "<lambda>") (.Lambda params body scope pos) f H1 → Q (.ref f) s') :
    wpAny (model X.prog X.w) X.A (eval (.Lambda params body scope pos) X.env) Q E s := by
  obtain ⟨ps, hP, ht, ha⟩ := hT _ hm
  refine PySem.W.kla_eval hdef ?_
  have bP : s.heap.BuiltinsAt X.mg P := TB.bm.keeps I.bk
  have hP' : s.heap.get? P = some { cls := .none, data := .fields ps } := I.hok P _ hP
  cases hc : codeAmong pos ps.toList with
  | none =>
    refine PySem.W.kla_makeFunction (mg := X.mg) (c := c) (P := P) (ps := ps) (closure_ok hfree) I.ok.glob (I.mod.glob.keeps I.bk) hcode (TB.code.keeps I.bk) hP' ht hc TB.gP bP fun c' ctv h' tk hx hge hlt hrec htb => ?_
    obtain ⟨c2, oc, vs, t, e2, hoc, hd, hv⟩ := hrec
    cases e2
    have hsz : s.heap.objs.size ≤ h'.objs.size := Nat.le_trans hge (Nat.le_of_lt hlt)
    have nC : H c' = none := I.hok.fresh hge
    have I1 := inv_table (t' := tk) (more := #[rawInt pos.line, rawInt pos.col, .ref c']) (h' := h'.push (PySem.W.kla_obj "<lambda>" (X.env.qual ++ "<lambda>") params body scope (cloFrom X.env.cells scope.names []) ((X.mg "__name__").getD .none) c' ctv)) I hP
      (fun b o hb e => Heap.get?_push_of_some _ (hx b o hb e)) (Heap.get?_push_of_some _ htb) hge ⟨oc, vs, t, Heap.get?_push_of_some _ hoc, hd, hv⟩
    have hE : ExtN H (upd (upd H P (.tbl (ps ++ #[rawInt pos.line, rawInt pos.col, .ref c']))) c' (CodeO c' (X.env.qual ++ "<lambda>"))) := fun b o e n => by
      rw [upd_ne (ne_of_none e nC), upd_ne (fun z => n ps (Option.some.inj (e.symm.trans (by rw [z]; exact hP))))]
      exact e
    have eL : (ps ++ #[rawInt pos.line, rawInt pos.col, .ref c']).toList = ps.toList ++ [rawInt pos.line, rawInt pos.col, .ref c'] := by simp
    have nF : upd (upd H P (.tbl (ps ++ #[rawInt pos.line, rawInt pos.col, .ref c']))) c' (CodeO c' (X.env.qual ++ "<lambda>")) h'.objs.size = none := by
      have n1 : h'.objs.size ≠ c' := Nat.ne_of_gt hlt
      have n2 : h'.objs.size ≠ P := Nat.ne_of_gt (Nat.lt_of_lt_of_le (Heap.lt_size hP') hsz)
      rw [upd_ne n1, upd_ne n2]
      exact I.hok.fresh hsz
    have hT1 : Tabs T (upd (upd H P (.tbl (ps ++ #[rawInt pos.line, rawInt pos.col, .ref c']))) c' (CodeO c' (X.env.qual ++ "<lambda>"))) := fun p hp => by
      by_cases hb : p.1 = P
      · rw [hu p hp hb, hb]
        refine ⟨_, by rw [upd_ne (ne_of_none hP nC), upd_same], by rw [eL]; exact PySem.TriplesOk_snoc _ _ _ _ ht, fun p' cv hcv => ?_⟩
        rw [eL] at hcv
        rcases among_app _ ht hcv with z | z
        · obtain ⟨c0, e1, e2⟩ := ha p' cv z
          exact ⟨c0, e1, hE _ _ e2 codeO_ne⟩
        · exact ⟨c', z, upd_same⟩
      · obtain ⟨ps', a1, a2, a3⟩ := hT p hp
        refine ⟨ps', by rw [upd_ne (ne_of_none a1 nC), upd_ne hb]; exact a1, a2, fun p' cv hcv => ?_⟩
        obtain ⟨c0, e1, e2⟩ := a3 p' cv hcv
        exact ⟨c0, e1, hE _ _ e2 codeO_ne⟩
    have sm := same_new (o := LamF h'.objs.size (PySem.W.kla_obj "<lambda>" (X.env.qual ++ "<lambda>") params body scope (cloFrom X.env.cells scope.names []) ((X.mg "__name__").getD .none) c' ctv)) nF
    exact h h'.objs.size _ _ (Inv.track I1 (Heap.get?_push_size _ rfl) (I.fpOk hsz nF)) (hE.trans (ExtN.of sm)) (hT1.ext sm) (I.hok.fresh hsz) ⟨_, _, _, _, _, c', ctv, rfl, upd_same, sm _ _ upd_same⟩
  | some cv =>
    obtain ⟨c', e, hco⟩ := ha pos cv hc
    subst e
    refine PySem.W.kla_makeFunctionHit (mg := X.mg) (c := c) (P := P) (ps := ps) (closure_ok hfree) I.ok.glob (I.mod.glob.keeps I.bk) hcode (TB.code.keeps I.bk) hP' ht hc bP fun ctv h' tk hx hsz => ?_
    have I1 : Inv X pins σ H { s with heap := h'.push (PySem.W.kla_obj "<lambda>" (X.env.qual ++ "<lambda>") params body scope (cloFrom X.env.cells scope.names []) ((X.mg "__name__").getD .none) c' ctv), toks := tk } := I.kept fun b o e => Heap.get?_push_of_some _ (hx b o e)
    have nF : H h'.objs.size = none := I.hok.fresh hsz
    have sm := same_new (o := LamF h'.objs.size (PySem.W.kla_obj "<lambda>" (X.env.qual ++ "<lambda>") params body scope (cloFrom X.env.cells scope.names []) ((X.mg "__name__").getD .none) c' ctv)) nF
    exact h h'.objs.size _ _ (Inv.track I1 (Heap.get?_push_size _ rfl) (I.fpOk hsz nF)) (ExtN.of sm) (hT.ext sm) nF ⟨_, _, _, _, _, c', ctv, rfl, upd_same, sm _ _ hco⟩
end
def tLamV (T : List (Addr × Str)) (cells : List (Str × Addr)) (q : Str) (le : Expr) : TE := fun _ H Q => Tabs T H ∧ ∀ f H1, ExtN H H1 → Tabs T H1 → H f = none → LamAt cells q le f H1 → Q (.ref f) H1
theorem pe_lamV {X : Cx} {T : List (Addr × Str)} {c P : Addr} {params : Arguments} {body : Expr} {scope : Scope} {pos : Pos} (le : Expr) (TB : TabB X.base X.mg c P) (hcode : X.env.code = .ref c) (hm : (P, X.env.qual ++ "<lambda>") ∈ T) (hu : ∀ p ∈ T, p.1 = P → p.2 = X.env.qual ++ "<lambda>")
    (L : LamS X.env.scope scope) (hdef : defaultsOf params X.env = ([], [])) (el : le = .Lambda params body scope pos) : PE X (.Lambda params body scope pos) (tLamV T X.env.cells (X.env.qual ++ "<lambda>") le) :=
  ⟨fun pins s σ H Q I h => lam_make3 I TB hcode hm hu h.1 hdef (L.has I.ok) fun f H1 s' I1 eN T1 nf la => ⟨.ref f, H1, I1, rfl, h.2 f H1 eN T1 nf (by rw [el]; exact la)⟩⟩
section
variable {X : Cx} {pins : List (Addr × Obj)} {σ : L2.St} {H HZ : Hp} {s s1 : Shared}
def CellsK (X : Cx) (s : Shared) (H1 : Hp) (s1 : Shared) : Prop := ∀ y c, X.env.cells.lookup y = some c → H1 c = none ∧ ∀ v, s.heap.IsCell c v → s1.heap.IsCell c v
theorem lam_start3 {A : Around} {outer : List Env} {E : XK} {scope : Scope} {f c' : Addr} {h₁ : Heap} {tk : Nat} (I : Inv X pins σ H s) (L : LamS X.env.scope scope) (e0 : Env0 X.prog X.w X.K X.mg X.base A outer s1 HZ) (hd : A.handled = none)
    (ck : CellsK X s HZ s1) (hns : h₁.Ns s1.heap.objs.size fun y => ([] : List (Str × Value)).reverse.lookup y) (kp : ∀ b o, s1.heap.get? b = some o → h₁.get? b = some o) :
    Inv (lamCx X A outer s1 HZ E scope f c') [] σ HZ { s1 with heap := h₁, toks := tk } := by
  have hfree := L.has I.ok
  have cm : ∀ {y c}, (cloFrom X.env.cells scope.names []).lookup y = some c → X.env.cells.lookup y = some c := fun {y c} e => by
    rcases cloFrom_mem (PySem.mem_of_lookup e) with hm | ⟨h1, h2⟩
    · cases hm
    · obtain ⟨c1, hc⟩ := hfree _ h1 rfl
      have hc : X.env.cells.lookup y = some c1 := hc
      have e2 : c = c1 := by
        rw [h2, hc] <;> rfl
      rw [e2]
      exact hc
  have look : ∀ {y}, scope.names.lookup y = some .free → ∃ c, (cloFrom X.env.cells scope.names []).lookup y = some c := fun {y} hl => by
    have hy : (y, NameKind.free) ∈ scope.names := PySem.mem_of_lookup hl
    exact mem_lookup (cloFrom_has (cells := X.env.cells) (acc := []) hy)
  have cellK : ∀ {y : Str} {c : Addr} {v : Option Value}, X.env.cells.lookup y = some c → s.heap.IsCell c v → h₁.IsCell c v := fun {y c v} n z => by
    obtain ⟨o, ho, hd⟩ := (ck y c n).2 v z
    exact ⟨_, kp _ _ ho, hd⟩
  have noA : ∀ b : Addr, b ∉ (lamCx X A outer s1 HZ E scope f c').ex := fun b z => absurd (show b ∈ ([] : List Addr) from z) (by simp)
  refine ⟨⟨e0.mod, L.kind, rfl, rfl, Nat.le_refl _, fun y z c e1 e2 => I.ok.inj y z c (cm e1) (cm e2), fun y hy => ?_, fun y c z _ => ?_, fun _ => hd, Around.frames_deeper e0.frames, .inr ⟨rfl, rfl⟩, fun b z => absurd z (noA b), e0.bs, e0.bsz, fun b _ _ => noA b,
      fun b z => absurd z (noA b), e0.funs, e0.frf⟩,
    rfl, e0.bare, Un.kept kp, ⟨_, hns, fun i y v e1 e2 e3 => ?_⟩, fun y c e => ?_, e0.hok.fresh (Nat.le_refl _), fun y c e => ?_, fun q hq => absurd (show q ∈ ([] : List (Addr × Obj)) ++ [] from hq) (by simp), e0.hok.kept kp, I.len⟩
  · have hy : scope.names.lookup y = some .cell ∨ scope.names.lookup y = some .free := hy
    rcases hy with hy | hy
    · exact absurd rfl (L.own _ (PySem.mem_of_lookup hy)).2
    · exact look hy
  · have z : false = true := z
    cases z
  · have e3 : Vis scope y := e3
    rcases e3 with k | k | k
    · exact absurd rfl (L.own _ (PySem.mem_of_lookup k)).1
    · exact absurd rfl (L.own _ (PySem.mem_of_lookup k)).2
    · obtain ⟨m, hn, hl⟩ := I.loc
      have hvis : Vis X.env.scope y := (L.free _ (PySem.mem_of_lookup k) rfl).elim (fun k => .inr (.inl k)) (fun k => .inr (.inr k))
      obtain ⟨w', r, q⟩ := hl i y v e1 e2 hvis
      obtain ⟨c2, h2⟩ := look k
      refine ⟨w', r, .inr ⟨.inr k, c2, h2, ?_⟩⟩
      have c1 := cm h2
      rcases q with ⟨k', _⟩ | ⟨_, c3, e', z⟩
      · have k' : X.env.scope.names.lookup y = some .local := k'
        rcases L.free _ (PySem.mem_of_lookup k) rfl with k2 | k2 <;> rw [show X.env.scope.names.lookup y = _ from k2] at k' <;> cases k'
      · rw [c1] at e'
        cases e'
        exact cellK c1 z
  · obtain ⟨w', z⟩ := I.cell y c (cm e)
    exact ⟨w', cellK (cm e) z⟩
  · exact (ck y c (cm e)).1
theorem pe_actT {CXg : CXT} {Eg : XK} {Ng : List Str} {qg : Str} {sg : Scope} {g f c' : Addr} {cdg pm ctv : Value} {params : Arguments} {body : Expr} {scope : Scope} {k i : Nat} {a : Str} {pn : List (Addr × Obj)} {xe : Value → Shared → Prop} {W : WX} {tb : XK → TE} {p1 p2 : Pos} {s' : Shared} {H' : Hp}
    (I : Inv X pins σ H s) (L : LamS X.env.scope scope) (ck : CellsK X s H' s') (hF : H' f = some (LamF f (PySem.W.kla_obj "<lambda>" (X.env.qual ++ "<lambda>") params body scope (cloFrom X.env.cells scope.names []) pm c' ctv)))
    (hbind : bindArgs (PySem.W.kla_fn "<lambda>" (X.env.qual ++ "<lambda>") params body scope (cloFrom X.env.cells scope.names []) pm (.ref c') ctv) ⟨[], []⟩ = pure [])
    (tk : Takes ((cxOf CXg X.prog X.w X.K X.mg X.base Ng qg sg g cdg X.A X.stack s' H' Eg).tr pn xe) W) (hr : Room (k + 1) (X.A.deeper (envOfC qg sg s'.heap.objs.size g cdg)))
    (hbody : ∀ (E : XK) (A : Around) (outer : List Env) (s : Shared) (H : Hp), Room k (A.deeper (lamEnv X scope s.heap.objs.size f c')) → PE (lamCx X A outer s H E scope f c') body (tb E))
    (hN : Ng[i]? = some a) (hv : Vis sg a) (hd : (a == ("__debug__" : Str)) = false := by decide) (hcd : (a == ("__classdict__" : Str)) = false := by decide) :
    PE ((cxOf CXg X.prog X.w X.K X.mg X.base Ng qg sg g cdg X.A X.stack s' H' Eg).tr pn xe) (.Call (.Name a p1) [] [] p2)
      (fun σZ HZ Q => σZ[i]? = some (some (.ref f)) ∧ HZ c' = some (CodeO c' (X.env.qual ++ "<lambda>")) ∧ tb (WE W σZ) σ HZ Q) := by
  refine ⟨fun pinsZ sZ σZ HZ Q IZ h => ?_⟩
  obtain ⟨hs, hc, ht⟩ := h
  refine wpAny_Call_Name_kw (thn ((pe_var (pos := p1) (i := i) hN hv hd hcd).run pinsZ sZ σZ HZ (fun v H1 => v = .ref f ∧ H1 = HZ) IZ ⟨.ref f, hs, rfl, rfl⟩) fun u s1 ⟨v, H1, I1, r1, q1⟩ => ?_)
  obtain ⟨ev, eH⟩ := q1
  subst ev
  rw [eH] at I1
  obtain rfl : u = Value.ref f := r1
  have un : Un (frs X.stack) [] H' HZ s'.heap s1.heap := I1.base
  have hFZ := un.frzs f _ _ hF
  have of1 : s1.heap.get? f = some (PySem.W.kla_obj "<lambda>" (X.env.qual ++ "<lambda>") params body scope (cloFrom X.env.cells scope.names []) pm c' ctv) := (I1.hok f _ hFZ).1
  refine PySem.W.callWith_F0 ⟨_, _, _, _, of1⟩ ?_
  have ck1 : CellsK X s HZ s1 := fun y c e => by
    obtain ⟨h1, h2⟩ := ck y c e
    obtain ⟨v0, z0⟩ := I.cell y c e
    refine ⟨?_, fun v z => ?_⟩
    · obtain ⟨o, ho, _⟩ := h2 v0 z0
      exact un.free c o ho h1 (by simp)
    · obtain ⟨o, ho, hd⟩ := h2 v z
      obtain ⟨sl, q⟩ := un.any ho h1 (by simp)
      exact ⟨_, q, hd⟩
  obtain ⟨⟨oc, vs, t, hoc, hdc, hvc⟩, _, _⟩ := I1.hok c' _ hc
  have rc : codeAny (model X.prog X.w) (X.A.deeper (envOfC qg sg s'.heap.objs.size g cdg)) (.call (.ref f) ⟨[], []⟩) (CR (L2.CX X.prog X.w) (envOfC qg sg s'.heap.objs.size g cdg :: X.stack) X.prog X.w HZ s1 Q (WE W σZ)) s1 := by
    refine PySem.W.kla_callFunE hr.depth of1 rfl L.co L.gen rfl ⟨c', oc, vs, t, rfl, hoc, hdc, hvc⟩ ?_
    rw [hbind]
    refine wpAny_pure (wpAny_newFunctionEnv (fun y hy => (L.own y hy).2) (fun y hy => absurd hy (by simp)) (fun h₁ hns hsb => ⟨I1.nolimit.fresh _ hsb, ?_⟩) L.kind)
    show codeAny _ _ (.expr body (lamEnv X scope s1.heap.objs.size f c')) _ _
    have kp : ∀ b o, s1.heap.get? b = some o → h₁.get? b = some o := fun b o e => hsb.extBut b o (Nat.ne_of_lt (Heap.lt_size e)) (Heap.get?_push_of_some _ e)
    have J : Inv (lamCx X (X.A.deeper (envOfC qg sg s'.heap.objs.size g cdg)) (envOfC qg sg s'.heap.objs.size g cdg :: X.stack) s1 HZ (WE W σZ) scope f c') [] σ HZ { s1 with heap := h₁, toks := s1.toks + ([] : List (Str × Value)).length } :=
      lam_start3 I L I1.env0 hr.hd ck1 hns kp
    refine PySem.W.kla_codeExpr (wpAny_mono ((hbody _ _ _ s1 HZ (hr.deeper _)).run [] _ _ HZ Q J ht) (fun v s' hq => ?_) fun e s' hq => hq)
    obtain ⟨w', H', J', rv, q⟩ := hq
    exact ⟨w', H', J'.os, J'.bare, J'.base, J'.hok, rv, q⟩
  refine wpAny_call (codeAny_mono rc fun r s' hq => ?_)
  cases r with
  | error e => exact passAt tk σZ pinsZ HZ s1 e s' I1 hq
  | ok fl =>
    cases fl with
    | ret u => exact I1.after hq
    | next => exact False.elim hq
    | brk => exact False.elim hq
    | cont => exact False.elim hq
end
inductive LamsK (X : Cx) (k : Nat) : List (Expr × (XK → TE)) → Prop
  | nil : LamsK X k []
  | cons {params : Arguments} {body : Expr} {scope : Scope} {pos : Pos} {t : XK → TE} {ls : List (Expr × (XK → TE))} (le : Expr) (e : le = .Lambda params body scope pos) (L : LamS X.env.scope scope)
      (hbind : ∀ (q : Str) (cl : List (Str × Addr)) (pm cv ctv : Value), bindArgs (PySem.W.kla_fn "<lambda>" q params body scope cl pm cv ctv) ⟨[], []⟩ = pure [])
      (hbody : ∀ (E : XK) (A : Around) (outer : List Env) (s : Shared) (H : Hp) (f c' : Addr), Room k (A.deeper (lamEnv X scope s.heap.objs.size f c')) → PE (lamCx X A outer s H E scope f c') body (t E)) (r : LamsK X k ls) : LamsK X k ((le, t) :: ls)
theorem LamsK.mem {X : Cx} {k : Nat} {ls : List (Expr × (XK → TE))} (h : LamsK X k ls) : ∀ p ∈ ls, ∃ (params : Arguments) (body : Expr) (scope : Scope) (pos : Pos), p.1 = .Lambda params body scope pos ∧ LamS X.env.scope scope ∧
    (∀ (q : Str) (cl : List (Str × Addr)) (pm cv ctv : Value), bindArgs (PySem.W.kla_fn "<lambda>" q params body scope cl pm cv ctv) ⟨[], []⟩ = pure []) ∧
    (∀ (E : XK) (A : Around) (outer : List Env) (s : Shared) (H : Hp) (f c' : Addr), Room k (A.deeper (lamEnv X scope s.heap.objs.size f c')) → PE (lamCx X A outer s H E scope f c') body (p.2 E)) := by
  induction h with
  | nil => intro p hp; cases hp
  | cons le e L hbind hbody r ih =>
    intro p hp
    rcases List.mem_cons.mp hp with rfl | hp
    · exact ⟨_, _, _, _, e, L, hbind, hbody⟩
    · exact ih p hp
def tTryV (cells : List (Str × Addr)) (q : Str) (ls : List (Expr × (XK → TE))) (TT : (XK → Hp → VK → Prop) → Hp → VK → Prop) (σ0 : L2.St) (te : TE) : TE := fun σ H Q => te σ H fun v H1 => ∃ (f : Addr) (p : Expr × (XK → TE)), v = .ref f ∧ p ∈ ls ∧ LamAt cells q p.1 f H1 ∧ TT (fun E H' Q' => p.2 E σ0 H' Q') H1 Q
theorem pe_tryV {X : Cx} {pins : List (Addr × Obj)} {σ : L2.St} {H : Hp} {s : Shared} {scope : Scope} {ce : Env} {fp : List Addr} {k : Nat} {ls : List (Expr × (XK → TE))} {TT : (XK → Hp → VK → Prop) → Hp → VK → Prop} {x a : Str} {g : Addr} {stg : Stmt} {fdg : FuncData} {Ng : List Str} {e : Expr} {te : TE} {p pos : Pos}
    (I : Inv X pins σ H s) (hfp : ∀ b ∈ fp, FpOk X pins H b) (hls : LamsK X k ls) (hg : Gl (X.blk s H scope ce fp) x) (hm : X.mg x = some (.ref g)) (Fg : Fun X.K x x stg g fdg) (hb : L2.Binds X.K fdg [a] []) (Sg : FnScope Ng [a] (defScope stg)) (hNg : Ng[0]? = some a) (hva : Vis (defScope stg) a)
    (hG : ∀ cdv, GivesS X Ng x (defScope stg) g cdv (defBody stg) a (X.env.qual ++ "<lambda>") TT) (hr : Room (k + 2) X.A) (he : PE (X.blk s H scope ce fp) e te)
    (hdb : (x == ("__debug__" : Str)) = false := by decide) (hd : (a == ("__debug__" : Str)) = false := by decide) (hcd : (a == ("__classdict__" : Str)) = false := by decide)
    (hst : starEach [e] (X.blk s H scope ce fp).env = (false, eval e (X.blk s H scope ce fp).env) :: starEach [] (X.blk s H scope ce fp).env := by rfl) :
    PE (X.blk s H scope ce fp) (.Call (.Name x p) [e] [] pos) (tTryV X.env.cells (X.env.qual ++ "<lambda>") ls TT σ te) := by
  obtain ⟨oc, od, kV, doc, pm, an, cdv, ct, osl, rfl, lk, hcg⟩ := Fg.ex
  have hk := Fg.kp
  refine ⟨fun pins' s' σ' H' Q I' h => ?_⟩
  refine wpAny_Call_Name_kw (ld_glob (X := X.blk s H scope ce fp) I' hg hm ?_ hdb)
  refine PySem.W.callWith_K (h₀ := X.base) I'.ok.mod.kin hk ?_ hst (by rfl)
  rw [hst]
  show wpAny _ _ (spliced ((false, eval e (X.blk s H scope ce fp).env) :: backTo pos (starEach [] (X.blk s H scope ce fp).env))) _ _ s'
  refine Calls.spliced_cons (thn (he.run pins' s' σ' H' _ I' h) fun u s1 ⟨v, H1, I1, r1, f, pl, ev, hpl, la, ht⟩ => ?_)
  subst ev
  obtain rfl : u = Value.ref f := r1
  refine Calls.spliced_nil ⟨I1.kIn, ?_⟩
  obtain ⟨params, body, sc2, pos2, el, L, hbind, hbody⟩ := hls.mem pl hpl
  obtain ⟨params', body', scope', pos', pm', c', ctv, el', hF, hco⟩ := la
  rw [el] at el'
  cases el'
  have ck : CellsK X s H1 s1 := fun y c e => by
    have un : Un (frs X.stack) fp H H1 s.heap s1.heap := I1.base
    have nf : c ∉ fp := fun z => (hfp c z).2.2.2.2.1 y c e rfl
    have hn := I.freeC y c e
    obtain ⟨v0, o0, z0, _⟩ := I.cell y c e
    refine ⟨un.free c o0 z0 hn nf, fun v ⟨o, ho, hd⟩ => ?_⟩
    obtain ⟨sl, q⟩ := un.any ho hn nf
    exact ⟨_, q, hd⟩
  have rc : codeAny (model X.prog X.w) X.A (.call (.ref g) ⟨[.ref f], []⟩) (CR C8.CX0 X.stack X.prog X.w H1 s1 Q C8.E0) s1 := by
    refine run_ofS (N := Ng) (ps := [a]) (us := [.ref f]) (vs := [.ref f]) lk hcg Sg hr I1.env0 (hb s1 [.ref f] I1.kIn rfl) (.cons rfl .nil) rfl fun hr' => ?_
    obtain ⟨t', ht', hq'⟩ := hG cdv f c' s1 H1 Q (fun E H' Q' => pl.2 E σ H' Q') (fun W pn xe p1 p2 tk => pe_actT (i := 0) I L ck hF (hbind _ _ _ _ _) tk hr' (fun E A outer s H hr2 => hbody E A outer s H f c' hr2) hNg hva hd hcd) hco ht
    exact ⟨t', ht'.nox, hq'⟩
  refine wpAny_call (codeAny_mono rc fun r s2 hq => ?_)
  cases r with
  | error e => exact (show False from hq).elim
  | ok fl =>
    cases fl with
    | ret u => exact I1.after hq
    | next => exact False.elim hq
    | brk => exact False.elim hq
    | cont => exact False.elim hq
section
variable {X : Cx}
theorem lc_coreM {pins : List (Addr × Obj)} {s : Shared} {σ : L2.St} {H : Hp} {Q : VK} {elt tg iter : Expr} {ifs : List Expr} {scope : Scope} {own : List (Str × Nat)} {pos pos' : Pos} {wi : TI} {g : TG} {tt : TT} {te : TE} {use : Option (Value → Sem Unit)} {Qf : Value → Shared → Prop}
    (hc : X.calm = true) (hN : X.N.Nodup) (I : Inv X pins σ H s) (hi : PI X tg iter wi) (ok : BlkOk X.N X.env.scope scope own)
    (hg : ∀ (s : Shared) (H : Hp) (C : Addr) (cl : List (Str × Addr)) (fp : List Addr), PG (X.blk s H scope (compEnvC scope cl C X.env) fp) tg g) (ht : ∀ (s : Shared) (H : Hp) (C : Addr) (cl : List (Str × Addr)) (fp : List Addr), PTs (X.blk s H scope (compEnvC scope cl C X.env) fp) ifs tt)
    (he : ∀ (pins : List (Addr × Obj)) (s : Shared) (H : Hp) (C : Addr) (cl : List (Str × Addr)) (fp : List Addr), Inv X pins σ H s → (∀ b ∈ fp, FpOk X pins H b) → PE (X.blk s H scope (compEnvC scope cl C X.env) fp) elt te) (hs : ∀ x, foldedSetIterable iter X.env x = pure x)
    (h : tLc wi g tt te (own.map (·.2)) σ H Q)
    (hRR : ∀ D C s' m H', Inv X pins σ H' s' → Q (.ref D) H' → s'.heap.Ns C m → FpOk X pins H' C → compPost (model X.prog X.w) X.A X.xe use Qf (.ref D) C (.ok .next) s') :
    wpAny (model X.prog X.w) X.A (comprehension (.ListComp elt [⟨tg, iter, ifs, 0⟩] scope pos) scope X.env pos' (newList []) false (eval iter X.env) use) Qf X.xe s := by
  have hfree : ∀ y ∈ scope.names, y.2 = .free → ∃ c, X.env.cells.lookup y.1 = some c := fun y hy e => by
    rcases ok.free y hy e with k | k
    · exact I.ok.has _ (.inl k)
    · exact I.ok.has _ (.inr k)
  refine wpAny_comprehension_free (use := use) rfl hs (closure_ok hfree) ok.kind (fun y hy e => by rw [ok.uniq y hy, e])
    (thn (hi.run pins s σ H _ I h) fun xv s1 hx => thn hx fun itv s2 h2 => ?_)
  obtain ⟨it, fp, tn, J, H2, e, I2, T, st2, f2, q⟩ := h2
  subst e
  refine wpAny_newObj_type (newEnv_comp ?_) (by show 0 ≤ sizeLine; decide)
  generalize hD : s2.heap.objs.size = D
  have hDn : H2 D = none := I2.hok.fresh (Nat.le_of_eq hD)
  obtain ⟨W, ⟨m0, w0⟩, turn⟩ := q D hDn
  generalize hs3 : ({ s2 with heap := s2.heap.push { cls := .type "list", data := .seq ([] : List Value).toArray } } : Shared) = s3
  have I3 : Inv X pins σ (upd H2 D (.lst [])) s3 := by
    rw [← hs3]
    refine I2.laid (t' := s2.toks) (fun b o e => Heap.get?_push_of_some _ e) (Nat.le_of_eq hD) ⟨Nat.zero_le _, [], 0, .nil, ?_⟩
    rw [← hD]
    exact Heap.get?_push_size _ rfl
  have h3 : s3.heap = s2.heap.push { cls := .type "list", data := .seq ([] : List Value).toArray } := by rw [← hs3]
  have sz : ∀ b ∈ fp, b < s2.heap.objs.size := fun b hb => by
    obtain ⟨o, e, _⟩ := T.obj _ _ st2 b hb
    exact Heap.lt_size e
  have f3 : ∀ b ∈ fp, FpOk X pins (upd H2 D (.lst [])) b ∧ b < s3.heap.objs.size := fun b hb => by
    have hlt := sz b hb
    refine ⟨⟨?_, (f2 b hb).2⟩, by rw [h3, Heap.size_push]; exact Nat.lt_succ_of_lt hlt⟩
    rw [upd_ne (by rw [← hD]; exact Nat.ne_of_lt hlt)]
    exact (f2 b hb).1
  have st3 : tn 0 s3.heap := T.keep _ _ _ st2 fun b _ o e => by rw [h3]; exact Heap.get?_push_of_some _ e
  have I4 := block_start I3 ok hN f3
  have pg := hg s3 (upd H2 D (.lst [])) s3.heap.objs.size (cellsFrom (s3.heap.objs.size + 1) scope.names (cloFrom X.env.cells scope.names [])) fp
  have pt := ht s3 (upd H2 D (.lst [])) s3.heap.objs.size (cellsFrom (s3.heap.objs.size + 1) scope.names (cloFrom X.env.cells scope.names [])) fp
  have pe := he pins s3 (upd H2 D (.lst [])) s3.heap.objs.size (cellsFrom (s3.heap.objs.size + 1) scope.names (cloFrom X.env.cells scope.names [])) fp I3 (fun b hb => (f3 b hb).1)
  show codeAny _ _ (.compStart (.ListComp elt [⟨tg, iter, ifs, 0⟩] scope pos) 0 (.ref it) (.ref D) (compEnvC scope (cellsFrom (s3.heap.objs.size + 1) scope.names (cloFrom X.env.cells scope.names [])) s3.heap.objs.size X.env)) (compPost (model X.prog X.w) X.A X.xe use Qf (.ref D) s3.heap.objs.size) { s3 with heap := pushCells (s3.heap.push { cls := .type "dict", data := .dict #[] }) scope.names }
  have nfp : ∀ b ∈ fp, (upd H2 D (.lst [])) b = none := fun b hb => (f3 b hb).1.1
  generalize hce : compEnvC scope (cellsFrom (s3.heap.objs.size + 1) scope.names (cloFrom X.env.cells scope.names [])) s3.heap.objs.size X.env = ce at I4 pg pt pe ⊢
  have cL : ce.locals = s3.heap.objs.size := by subst hce; rfl
  generalize hH3 : upd H2 D (.lst []) = H3 at I3 I4 pg pt pe w0 nfp f3
  generalize hs4 : ({ s3 with heap := pushCells (s3.heap.push { cls := .type "dict", data := .dict #[] }) scope.names } : Shared) = s4 at I4 ⊢
  have st4 : tn 0 s4.heap := T.keep _ _ _ st3 fun b _ o e => by rw [← hs4]; exact pushCells_keeps _ _ _ _ (Heap.get?_push_of_some _ e)
  have stat : ∀ {σ' : L2.St} {H' : Hp} {s' : Shared}, Inv (X.blk s3 H3 scope ce fp) [] σ' H' s' → (∀ b ∈ fp, H' b = none) → ∀ b ∈ fp, FpOk (X.blk s3 H3 scope ce fp) [] H' b := fun {σ' H' s'} I' hn b hb =>
    ⟨hn b hb, (I'.ok.exf b hb).1, I'.ok.exfs b hb, .inl hb, fun x c e => (I'.ok.exf b hb).2 x c e, fun p hp => absurd (show p ∈ ([] : List (Addr × Obj)) ++ [] from hp) (by simp)⟩
  have loop : codeAny (model X.prog X.w) X.A (.compLoop (.ListComp elt [⟨tg, iter, ifs, 0⟩] scope pos) 0 (.ref it) (.ref D) ce) (compPost (model X.prog X.w) X.A X.xe use Qf (.ref D) s3.heap.objs.size) s4 := by
    refine compLoop_any (fun n s' => ∃ i H', Inv (X.blk s3 H3 scope ce fp) [] (wipe σ (own.map (·.2))) H' s' ∧ tn i s'.heap ∧ (∀ b ∈ fp, H' b = none) ∧ W i n H') ?_ m0 ⟨0, H3, I4, st4, nfp, w0⟩
    rintro n s5 ⟨i, H5, I5, st5, n5, w5⟩
    rcases turn i n H5 w5 with ⟨stop, qq⟩ | ⟨go, Nx, hNx, step⟩
    · have td := T.done (X.blk s3 H3 scope ce fp) rfl rfl rfl hc i [] s5 _ H5 (fun _ _ => False) I5 (stat I5 n5) st5 stop
      refine thnF td fun r s6 ⟨hr, I6⟩ => ?_
      subst hr
      have I7 : Inv X pins σ H5 s6 := I3.call' (ch := fp) I6.os I6.base I6.hok I6.bare fun b hb => ⟨(f3 b hb).1.2.2.2.1, (f3 b hb).1.2.1, (f3 b hb).1.2.2.2.2.1, (f3 b hb).1.2.2.2.2.2⟩
      have nC : H5 s3.heap.objs.size = none := by
        have z : H5 ce.locals = none := I6.free
        rw [cL] at z
        exact z
      obtain ⟨m, hn, _⟩ := I6.loc
      have hn : s6.heap.Ns ce.locals m := hn
      rw [cL] at hn
      exact hRR D s3.heap.objs.size s6 m H5 I7 qq hn (I3.fpOk (Nat.le_refl _) nC)
    · have ti := T.item (X.blk s3 H3 scope ce fp) rfl rfl rfl hc i [] s5 _ H5 (fun _ _ => False) I5 (stat I5 n5) st5 go
      refine thnF ti fun r s6 ⟨u, hr, h6⟩ => ?_
      subst hr
      refine thnF h6 fun _ s7 ⟨x, H7, I7, r7, y7, st7, n7⟩ => ?_
      have I7' := I7.pinned (stat I7 n7) (T.obj _ _ st7)
      refine thnF (pg.run _ s7 _ H7 x u _ I7' r7 (step x H7 y7)) fun _ s8 ⟨σ8, H8, I8, hw8, q8⟩ => ?_
      refine thnF (pt.run _ s8 σ8 H8 _ I8 q8) fun b s9 ⟨H9, I9, q9⟩ => ?_
      have fin : ∀ {s' : Shared} {H' : Hp}, Inv (X.blk s3 H3 scope ce fp) ([] ++ pinsAt fp s7.heap) σ8 H' s' → Nx H' → ∃ m, m < n ∧ ∃ i H', Inv (X.blk s3 H3 scope ce fp) [] (wipe σ (own.map (·.2))) H' s' ∧ tn i s'.heap ∧ (∀ b ∈ fp, H' b = none) ∧ W i m H' := fun {s' H'} I' nx => by
        obtain ⟨m', hm, w'⟩ := hNx H' nx
        have pin' : ∀ b ∈ fp, ∀ o, s7.heap.get? b = some o → s'.heap.get? b = some o ∧ H' b = none := fun b hb o e =>
          let z := I'.pin (b, o) (List.mem_append_right _ (List.mem_append_right _ (mem_pinsAt hb e)))
          ⟨z.1, z.2.1⟩
        have hl : (wipe σ (own.map (·.2))).length = σ8.length := by rw [← hw8, wipe_length]
        refine ⟨m', hm, i + 1, H', (I'.unpinned (pins := [])).weak hl (fun j v e => ?_), T.keep _ _ _ st7 fun b hb o e => (pin' b hb o e).1, fun b hb => ?_, w'⟩
        · rw [← hw8] at e
          exact (wipe_some e).1
        · obtain ⟨o, e, _⟩ := T.obj _ _ st7 b hb
          exact (pin' b hb o e).2
      cases b with
      | false =>
        simp only [Bool.false_eq_true, if_false] at q9 ⊢
        exact fin I9 q9
      | true =>
        simp only [if_true] at q9 ⊢
        refine thnF (pe.run _ s9 σ8 H9 _ I9 q9) fun z s10 ⟨yv, H10, I10, r10, acc, hD10, hz10, nx⟩ => ?_
        exact app_ok (X := X.blk s3 H3 scope ce fp) I10 hD10 hz10 r10 fun s11 I11 => fin I11 nx
  exact codeAny_compStart_list loop (T.self X.A 0 _ _ _ st4 loop)
def tLcM (wi : TI) (g : TG) (tt : TT) (te : L2.St → TE) (vs : List Nat) : TE := fun σ H Q => tLc wi g tt (te σ) vs σ H Q
theorem pe_lcM {elt tg iter : Expr} {ifs : List Expr} {scope : Scope} {own : List (Str × Nat)} {pos : Pos} {wi : TI} {g : TG} {tt : TT} {te : L2.St → TE} (hc : X.calm = true) (hN : X.N.Nodup) (hi : PI X tg iter wi) (ok : BlkOk X.N X.env.scope scope own)
    (hg : ∀ (s : Shared) (H : Hp) (C : Addr) (cl : List (Str × Addr)) (fp : List Addr), PG (X.blk s H scope (compEnvC scope cl C X.env) fp) tg g) (ht : ∀ (s : Shared) (H : Hp) (C : Addr) (cl : List (Str × Addr)) (fp : List Addr), PTs (X.blk s H scope (compEnvC scope cl C X.env) fp) ifs tt)
    (he : ∀ (σ : L2.St) (pins : List (Addr × Obj)) (s : Shared) (H : Hp) (C : Addr) (cl : List (Str × Addr)) (fp : List Addr), Inv X pins σ H s → (∀ b ∈ fp, FpOk X pins H b) → PE (X.blk s H scope (compEnvC scope cl C X.env) fp) elt (te σ)) (hs : ∀ x, foldedSetIterable iter X.env x = pure x := by intro _; rfl) :
    PE X (.ListComp elt [⟨tg, iter, ifs, 0⟩] scope pos) (tLcM wi g tt te (own.map (·.2))) := by
  refine ⟨fun pins s σ H Q I h => ?_⟩
  rw [eval_ListComp]
  refine lc_coreM hc hN I hi ok hg ht (he σ) hs h fun D C s' m H' I' q hn f => ⟨m, hn, fun h'' sb => ?_⟩
  obtain ⟨f0, f1, f2, f3, f4, f5⟩ := f
  exact ⟨.ref D, H', I'.turned (t' := s'.toks) (fun b o hb e => (sb.2 b hb).trans e) f0 f1 f3 f4 f5, rfl, q⟩
end
theorem mem0 {α : Type} {a : α} {l : List α} : a ∈ a :: l := List.mem_cons_self
theorem mem1 {α : Type} {a b : α} {l : List α} : a ∈ b :: a :: l := List.mem_cons_of_mem _ mem0
theorem mem2 {α : Type} {a b c : α} {l : List α} : a ∈ b :: c :: a :: l := List.mem_cons_of_mem _ mem1
section
variable {σ σ0 : L2.St} {H H0 H1 H' : Hp} {Q : VK} {K : PySem.W.Frag} {p f : Addr} {les : List Expr} {le : Expr} {L : List (Addr × Str)} {TT : (XK → Hp → VK → Prop) → Hp → VK → Prop} {t : XK → TE} {cells : List (Str × Addr)} {q : Str} {ls : List (Expr × (XK → TE))} {te : TE}
end
end Wk

set_option Elab.async false
set_option linter.all false
set_option maxRecDepth 100000
set_option maxHeartbeats 4000000
namespace Wk
open PySem PySem.Spec PyProof.Rows L2
def SIt : Bool → Heap → Addr → Addr → Nat → Prop
  | true, h, it, l, i => h.IsTupleIter it l i
  | false, h, it, l, i => h.IsListIter it l i
def SIs : Bool → Heap → Addr → Array Value → Prop
  | true, h, l, its => h.IsTuple l its
  | false, h, l, its => h.IsList l its
def SqB (K : PySem.W.Frag) : Bool → Hp → Addr → List V → Prop
  | true, H, a, xs => SqT K H a xs
  | false, H, a, xs => SqL K H a xs
def itO : Bool → Addr → Obj
  | true, l => { cls := .type "tuple_iterator", data := .fields #[.ref l, .int 0 0] }
  | false, l => { cls := .type "list_iterator", data := .fields #[.ref l, .int 0 0] }
theorem drawsQ {prog : Program} {w : World} {A : Around} (hh : A.handled = none) : ∀ (t : Bool) (it l : Addr) (hne : l ≠ it) (items : Array Value), Draws prog w A it [it, l] items.size (fun i v => items[i]? = some v) (fun i h => SIt t h it l i ∧ SIs t h l items)
  | true, it, l, hne, items => Draws.tuple hh it l hne items
  | false, it, l, hne, items => Draws.list hh it l hne items
theorem beginsQ : ∀ (t : Bool) (l : Addr) (items : Array Value), Begins (.ref l) (itO t l) fun h => SIs t h l items
  | true, l, items => begins_tuple l items
  | false, l, items => begins_list l items
theorem SIt.obj : ∀ {t : Bool} {h : Heap} {it l : Addr} {i : Nat}, SIt t h it l i → ∃ o, h.get? it = some o ∧ ∀ v, o.data ≠ .cell v
  | true, _, _, _, _, ⟨o, e, _, d⟩ => ⟨o, e, fun v q => by rw [d] at q; cases q⟩
  | false, _, _, _, _, ⟨o, e, _, d⟩ => ⟨o, e, fun v q => by rw [d] at q; cases q⟩
theorem SIt.to : ∀ {t : Bool} {h h' : Heap} {it l : Addr} {i : Nat}, SIt t h it l i → (∀ o, h.get? it = some o → h'.get? it = some o) → SIt t h' it l i
  | true, _, _, _, _, _, z, k => Heap.IsTupleIter.at z k
  | false, _, _, _, _, _, z, k => Heap.IsListIter.at z k
theorem SIt.new : ∀ {t : Bool} {h : Heap} {it l : Addr}, h.get? it = some (itO t l) → SIt t h it l 0
  | true, _, _, _, e => ⟨_, e, rfl, rfl⟩
  | false, _, _, _, e => ⟨_, e, rfl, rfl⟩
theorem SqB.at {X : Cx} {pins : List (Addr × Obj)} {σ : L2.St} {H : Hp} {s : Shared} (I : Inv X pins σ H s) : ∀ {t : Bool} {a : Addr} {xs : List V}, SqB X.K t H a xs → ∃ its : List Value, Vals xs its ∧ SIs t s.heap a its.toArray ∧ a < s.heap.objs.size
  | true, a, xs, h => by
    obtain ⟨its, rv, p, _⟩ := I.tuple h
    obtain ⟨o, ho, _⟩ := id p
    exact ⟨its, rv, p, Heap.lt_size ho⟩
  | false, a, xs, h => by
    obtain ⟨its, rv, p, _⟩ := I.list h
    exact ⟨its, rv, p.isList, p.lt⟩
def ItZ (K : PySem.W.Frag) (ta tb : Bool) (a b : Addr) (xs ys : List V) : It :=
  ⟨fun i H => SqB K ta H a xs ∧ SqB K tb H b ys ∧ i < xs.length ∧ i < ys.length,
    fun i H v H' => ∃ T x y, v = .ref T ∧ H T = none ∧ H' = upd H T (.tup [x, y]) ∧ xs[i]? = some x ∧ ys[i]? = some y,
    fun i H => SqB K ta H a xs ∧ SqB K tb H b ys ∧ i ≤ xs.length ∧ i ≤ ys.length ∧ (i = xs.length ∨ i = ys.length)⟩
theorem turn_zipQ {P : Program} {w : World} {K : PySem.W.Frag} {elts : List Expr} {kk : Nat} {tpos : Pos} {ta tb : Bool} {a b z TI TO i1 i2 : Addr} {xs ys : List V} (S : ZipSep2 z TI TO i1 i2 [i1, a] [i2, b]) (n1 : a ≠ i1) (n2 : b ≠ i2) :
    Turn P w K (.Tuple elts kk tpos) (ItZ K ta tb a b xs ys) [z, TI, TO, i1, i2] z (fun i h => IsZip h z TI TO .none ∧ IsTupOf2 h TI (.ref i1) (.ref i2) ∧ (∃ x y, IsTupOf2 h TO x y) ∧ SIt ta h i1 a i ∧ SIt tb h i2 b i) where
  mem := by simp
  obj := fun i h st c hc => by
    obtain ⟨hz, hTI, ⟨x, y, hTO⟩, h1, h2⟩ := st
    have e' : c = z ∨ c = TI ∨ c = TO ∨ c = i1 ∨ c = i2 := by simpa using hc
    rcases e' with q | q | q | q | q
    · rw [q]; exact ⟨_, hz, fun v q => nomatch q⟩
    · rw [q]; exact ⟨_, hTI, fun v q => nomatch q⟩
    · rw [q]; exact ⟨_, hTO, fun v q => nomatch q⟩
    · rw [q]; exact h1.obj
    · rw [q]; exact h2.obj
  keep := fun i h h' st k => by
    obtain ⟨hz, hTI, ⟨x, y, hTO⟩, h1, h2⟩ := st
    exact ⟨k z (by simp) _ hz, k TI (by simp) _ hTI, ⟨x, y, k TO (by simp) _ hTO⟩, h1.to fun o q => k i1 (by simp) o q, h2.to fun o q => k i2 (by simp) o q⟩
  item := by
    intro X hP hw hK hc i pins s σ H E I hf st hg
    subst hP hw hK
    obtain ⟨hz, hTI, ⟨x0, y0, hTO⟩, h1, h2⟩ := st
    obtain ⟨hqx, hqy, hx, hy⟩ := hg
    obtain ⟨its, rv, p, _⟩ := hqx.at I
    obtain ⟨its2, rv2, p2, _⟩ := hqy.at I
    have l1 := rv.length
    have l2 := rv2.length
    have hzl : z < s.heap.objs.size := Heap.lt_size hz
    refine wpAny_pyNext_zipD2_item S (drawsQ (show X.A.in1.handled = none from I.ok.hd hc) ta i1 a n1 its.toArray) (drawsQ (show X.A.in1.handled = none from I.ok.hd hc) tb i2 b n2 its2.toArray) hz hTI hTO ⟨h1, p⟩ ⟨h2, p2⟩ (by simp; omega) (by simp; omega) fun u u2 h' tk hu hu2 z' TO' st1 st2 hT hsz hk => ?_
    refine ⟨_, rfl, wpAny_letOwnedTupleGo_zip (s := { s with heap := h', toks := tk }) z' fun h'' z'' sb => ?_⟩
    obtain ⟨v1, e1, r1⟩ : ∃ v, xs[i]? = some v ∧ RelV v u := by
      obtain ⟨w1, hw1, r1⟩ := rv.get (List.getElem?_eq_getElem hx)
      have hu' : its[i]? = some u := by simpa using hu
      rw [hw1] at hu'
      cases hu'
      exact ⟨_, List.getElem?_eq_getElem hx, r1⟩
    obtain ⟨v2, e2, r2⟩ : ∃ v, ys[i]? = some v ∧ RelV v u2 := by
      obtain ⟨w1, hw1, r1⟩ := rv2.get (List.getElem?_eq_getElem hy)
      have hu' : its2[i]? = some u2 := by simpa using hu2
      rw [hw1] at hu'
      cases hu'
      exact ⟨_, List.getElem?_eq_getElem hy, r1⟩
    have hT2 : h''.get? s.heap.objs.size = some { cls := .type "tuple", data := .seq #[u, u2] } := (sb.2 _ (Nat.ne_of_gt hzl)).trans hT
    have new : ObjOk X.prog X.w (upd H s.heap.objs.size (.tup [v1, v2])) h'' s.heap.objs.size (.tup [v1, v2]) :=
      ⟨by show 2 ≤ sizeLine; decide, [u, u2], .cons r1 (.cons r2 .nil), ⟨_, hT2, rfl, _, rfl⟩⟩
    have I1 : Inv X pins σ (upd H s.heap.objs.size (.tup [v1, v2])) { s with heap := h'', toks := tk } :=
      I.turnedNew (t' := tk) (ch := [z, TI, TO, i1, i2]) (fun c o hb q => (sb.2 c (fun q' => hb (by simp [q']))).trans (hk c o (fun q' => hb (by simp [q'])) (fun q' => hb (by simp [q'])) (fun q' => hb (by simp [q'])) (fun q' => hb (by simp [q'])) q)) hf (Nat.le_refl _) new
    refine ⟨.ref s.heap.objs.size, _, I1, rfl, ⟨_, v1, v2, rfl, I.hok.fresh (Nat.le_refl _), rfl, e1, e2⟩, ⟨z'', ?_, ⟨u, u2, ?_⟩, ?_, ?_⟩, fun c hcm => ?_⟩
    · exact (sb.2 _ S.TIz).trans (hk _ _ S.TIz S.TITO S.TIi1 S.TIi2 hTI)
    · exact (sb.2 _ S.TOz).trans TO'
    · exact st1.1.to fun o q => (sb.2 _ S.zi1.symm).trans q
    · exact st2.1.to fun o q => (sb.2 _ S.zi2.symm).trans q
    · have hlt : c < s.heap.objs.size := by
        have e' : c = z ∨ c = TI ∨ c = TO ∨ c = i1 ∨ c = i2 := by simpa using hcm
        rcases e' with q | q | q | q | q
        · rw [q]; exact hzl
        · rw [q]; exact Heap.lt_size hTI
        · rw [q]; exact Heap.lt_size hTO
        · rw [q]; obtain ⟨_, e1, _⟩ := h1.obj; exact Heap.lt_size e1
        · rw [q]; obtain ⟨_, e2, _⟩ := h2.obj; exact Heap.lt_size e2
      rw [upd_ne (Nat.ne_of_lt hlt)]
      exact (hf c hcm).1
  done := by
    intro X hP hw hK hc i pins s σ H E I hf st hg
    subst hP hw hK
    obtain ⟨hz, hTI, ⟨x0, y0, hTO⟩, h1, h2⟩ := st
    obtain ⟨hqx, hqy, hi1, hi2, hend⟩ := hg
    obtain ⟨its, rv, p, _⟩ := hqx.at I
    obtain ⟨its2, rv2, p2, _⟩ := hqy.at I
    have l1 := rv.length
    have l2 := rv2.length
    exact wpAny_pyNext_zipD2_end S (drawsQ (show X.A.in1.handled = none from I.ok.hd hc) ta i1 a n1 its.toArray) (drawsQ (show X.A.in1.handled = none from I.ok.hd hc) tb i2 b n2 its2.toArray) hz hTI hTO ⟨h1, p⟩ ⟨h2, p2⟩ (by simp; omega) (by simp; omega) (by simp; omega) fun h' tk hk => ⟨rfl, I.turnedL (t' := tk) (ch := [z, TI, TO, i1, i2]) (fun c o hb q =>
      hk c o (fun q' => hb (by simp [q'])) (fun q' => hb (by simp [q'])) (fun q' => hb (by simp [q'])) (fun q' => hb (by simp [q'])) q) hf⟩
  self := fun A i s Q E st h => wpAny_pyIter_zip st.1 h
theorem notIn2 {x a b : Nat} (h1 : x ≠ a) (h2 : x ≠ b) : x ∉ [a, b] := by simp [h1, h2]
theorem sep5 {n a b : Nat} (ha : a < n) (hb : b < n) : ZipSep2 (n + 4) (n + 2) (n + 3) n (n + 1) [n, a] [n + 1, b] where
  TIz := Nat.ne_of_lt (by omega)
  TOz := Nat.ne_of_lt (by omega)
  TITO := Nat.ne_of_lt (by omega)
  TIi1 := Nat.ne_of_gt (by omega)
  mem1 := List.mem_cons_self
  zf1 := notIn2 (Nat.ne_of_gt (by omega)) (Nat.ne_of_gt (by omega))
  Tf1 := notIn2 (Nat.ne_of_gt (by omega)) (Nat.ne_of_gt (by omega))
  TIi2 := Nat.ne_of_gt (by omega)
  mem2 := List.mem_cons_self
  zf2 := notIn2 (Nat.ne_of_gt (by omega)) (Nat.ne_of_gt (by omega))
  Tf2 := notIn2 (Nat.ne_of_gt (by omega)) (Nat.ne_of_gt (by omega))
  sep1_2 := notIn2 (Nat.ne_of_lt (by omega)) (Nat.ne_of_gt (by omega))
  sep2_1 := notIn2 (Nat.ne_of_gt (by omega)) (Nat.ne_of_gt (by omega))
def rZipQ (K : PySem.W.Frag) (vs : List V) (H : Hp) (R : It → Hp → Prop) : Prop := ∃ a b xs ys ta tb, vs = [.ref a, .ref b] ∧ SqB K ta H a xs ∧ SqB K tb H b ys ∧ R (ItZ K ta tb a b xs ys) H
def iZipQ (K : PySem.W.Frag) (tA : TA) : TI := fun σ H R => tA σ H fun vs H1 => rZipQ K vs H1 R
theorem pi_zipQ {X : Cx} (K : PySem.W.Frag) (eK : X.K = K) {e e2 : Expr} {tA : TA} {p pos tpos : Pos} {elts : List Expr} {kk : Nat} (hg : Gl X "zip") (hm : X.mg "zip" = none) (ha : PA X [e, e2] tA)
    (hs : starEach [e, e2] X.env = (false, eval e X.env) :: starEach [e2] X.env := by rfl) (hpl : (backTo pos (starEach [e2] X.env)).any (·.1) = false := by rfl) :
    PI X (.Tuple elts kk tpos) (.Call (.Name "zip" p) [e, e2] [] pos) (iZipQ K tA) := by
  subst eK
  refine ⟨fun pins s σ H R I h => ?_⟩
  refine Call_ (ld_blt I hg hm PyProof.Rows.boot_zip (PyProof.Rows.callWith_type1 (thn (ha.run pos pins s σ H _ I h) fun us s1 ⟨vs, H1, I1, r1, q1⟩ => ?_) hs hpl))
  obtain ⟨a, b, xs, ys, ta, tb, ex, hqx, hqy, q⟩ := q1
  subst ex
  cases r1 with
  | cons r rr =>
    cases rr with
    | cons r' rr =>
      cases rr
      cases r
      cases r'
      have fresh5 : ∀ c, c ∈ [s1.heap.objs.size + 4, s1.heap.objs.size + 2, s1.heap.objs.size + 3, s1.heap.objs.size, s1.heap.objs.size + 1] → FpOk X pins H1 c := fun c hcm => by
        have e' : c = s1.heap.objs.size + 4 ∨ c = s1.heap.objs.size + 2 ∨ c = s1.heap.objs.size + 3 ∨ c = s1.heap.objs.size ∨ c = s1.heap.objs.size + 1 := by simpa using hcm
        have hle : s1.heap.objs.size ≤ c := by omega
        exact I1.fpOk hle (I1.hok.fresh hle)
      obtain ⟨its, rv, p1, la⟩ := hqx.at I1
      obtain ⟨its2, rv2, p2, lb⟩ := hqy.at I1
      refine zip_begins2 (beginsQ ta a its.toArray) (beginsQ tb b its2.toArray) p1 p2 fun h' hz hTI hTO h1 h2 hsz hk => wpAny_pyIter_zip hz ?_
      have I2 : Inv X pins σ H1 { s1 with heap := h' } := I1.kept (t' := s1.toks) hk
      exact ⟨s1.heap.objs.size + 4, [s1.heap.objs.size + 4, s1.heap.objs.size + 2, s1.heap.objs.size + 3, s1.heap.objs.size, s1.heap.objs.size + 1], _, _, H1, rfl, I2, turn_zipQ (sep5 la lb) (Nat.ne_of_lt la) (Nat.ne_of_lt (Nat.lt_succ_of_lt lb)), ⟨hz, hTI, ⟨_, _, hTO⟩, SIt.new h1, SIt.new h2⟩, fresh5, q⟩
theorem SqB.of {K : PySem.W.Frag} {H : Hp} {a : Addr} {xs : List V} (h : Sq K H a xs) : ∃ t, SqB K t H a xs := by
  rcases h with h | h
  · exact ⟨false, h⟩
  · exact ⟨true, h⟩
section
variable {σ : L2.St} {H : Hp} {K : PySem.W.Frag} {R : It → Hp → Prop} {tA : TA} {g : TG} {s1 : TS} {D : Ends}
end
section
variable {σ : L2.St} {H : Hp} {K : PySem.W.Frag} {Q : VK}
end
end Wk

set_option Elab.async false
set_option linter.all false
set_option maxRecDepth 100000
set_option maxHeartbeats 4000000
namespace Wk
open PySem PySem.Spec PyProof.Rows L2
def bt (n : Int) (k : Nat) : List Int := (List.range k).map fun i => n / 2 ^ (k - 1 - i) % 2
theorem bt_len (n : Int) (k : Nat) : (bt n k).length = k := by simp [bt]
section
variable {X : Cx} {H : Hp} {Q : VK}
end
section
variable {σ : L2.St} {H : Hp} {Q : VK} {K : PySem.W.Frag} {s1 s2 s3 s4 s5 rest : TS} {D : Ends}
end
end Wk

set_option Elab.async false
set_option linter.all false
set_option maxRecDepth 100000
set_option maxHeartbeats 4000000
namespace Wk
open PySem PySem.Spec PyProof.Rows L2
section
variable {prog : Program} {w : World} {A : Around} {E : Value → Shared → Prop} {s : Shared} {z TI TO i1 i2 : Addr} {fp1 fp2 : List Addr} {n1 n2 i : Nat} {P1 P2 : Nat → Value → Prop} {St1 St2 : Nat → Heap → Prop} {a1 a2 : Value}
end
section
variable {σ : L2.St} {H : Hp} {K : PySem.W.Frag} {R : It → Hp → Prop} {tA : TA} {Q : VK} {te : TE}
end
end Wk

set_option Elab.async false
set_option linter.all false
set_option maxRecDepth 100000
set_option maxHeartbeats 4000000
namespace Wk
open PySem PySem.Spec PyProof.Rows L2
end Wk

set_option Elab.async false
set_option linter.all false
set_option maxRecDepth 100000
set_option maxHeartbeats 4000000
namespace Wk
open PySem PySem.Spec PyProof.Rows L2
inductive D where
  | non | bl (b : Bool) | int (i : Int) | str (x : Str) | lst (ds : List D) | tup (ds : List D) | drw | obj (C : Addr) (ns : List Str) (ds : List D) | scr | lam (cells : List (Str × Addr)) (q : Str) (le : Expr) | dct (ks : List Key) (ds : List D) | adr (a : Addr)
mutual
inductive Rp (K : PySem.W.Frag) (H : Hp) : V → D → Prop
  | non : Rp K H .non .non
  | bl (b : Bool) : Rp K H (.bl b) (.bl b)
  | int (i : Int) : Rp K H (.int i) (.int i)
  | str (x : Str) : Rp K H (.str x) (.str x)
  | lst {a : Addr} {xs : List V} {ds : List D} : H a = some (.lst xs) → RpA K H xs ds → Rp K H (.ref a) (.lst ds)
  | tup {a : Addr} {xs : List V} {ds : List D} : SqT K H a xs → RpA K H xs ds → Rp K H (.ref a) (.tup ds)
  | drw {a : Addr} : Drw H a → Rp K H (.ref a) .drw
  | obj {a C dx : Addr} {fs : List (Str × V)} {ns : List Str} {xs : List V} {ds : List D} : H a = some (.ins C dx fs) → fs.map (·.1) = ns → fs.map (·.2) = xs → RpA K H xs ds → Rp K H (.ref a) (.obj C ns ds)
  | scr {a : Addr} {ns : List Int} : SqL K H a (ns.map V.int) → ns.length ≤ 63 → Rp K H (.ref a) .scr
  | lam {a : Addr} {cells : List (Str × Addr)} {q : Str} {le : Expr} : LamAt cells q le a H → Rp K H (.ref a) (.lam cells q le)
  | dct {a : Addr} {kvs : List (Key × V)} {ks : List Key} {xs : List V} {ds : List D} : H a = some (.dK kvs) → kvs.map (·.1) = ks → kvs.map (·.2) = xs → RpA K H xs ds → Rp K H (.ref a) (.dct ks ds)
  | adr (a : Addr) : Rp K H (.ref a) (.adr a)
inductive RpA (K : PySem.W.Frag) (H : Hp) : List V → List D → Prop
  | nil : RpA K H [] []
  | cons {x : V} {xs : List V} {d : D} {ds : List D} : Rp K H x d → RpA K H xs ds → RpA K H (x :: xs) (d :: ds)
end
def NL (H : Hp) (a : Addr) : Prop := ∀ xs, H a ≠ some (.lst xs)
theorem NL.of {H : Hp} {a : Addr} (h : H a = none) : NL H a := fun xs z => by rw [h] at z; cases z
theorem NL.back {H H' : Hp} {a : Addr} (h : NL H' a) (e : LamX.ExtN H H') : NL H a := fun xs z => h xs (hp_monoL e z)
theorem nl_none {H H' : Hp} {a : Addr} {xs : List V} (s : L2.Same H H') (h : NL H a) (e : H' a = some (.lst xs)) : H a = none := by
  cases q : H a with
  | none => rfl
  | some o =>
    have := s _ _ q
    rw [e] at this
    cases this
    exact absurd q (h xs)
structure Ord where
  r : Hp → Hp → Prop
  ok : Hp → Prop
  okr : ∀ {H H'}, r H H' → ok H → ok H'
  refl : ∀ H, r H H
  trans : ∀ {H H1 H2}, r H H1 → r H1 H2 → r H H2
  same : ∀ {H H'}, L2.Same H H' → r H H'
  ext : ∀ {H H'}, r H H' → LamX.ExtN H H'
  hid : ∀ {H H'} {a : Addr} {xs : List V}, r H H' → H a = some (.lst xs) → r (hid H a) (hid H' a)
  mutl : ∀ {H H'} {a : Addr} {xs ys : List V}, r H H' → NL H a → H' a = some (.lst xs) → r H (upd H' a (.lst ys))
  drop : ∀ {H H'} {a : Addr} {xs : List V}, r H H' → NL H a → H' a = some (.lst xs) → r H (Wk.hid H' a)
  mutd : ∀ {H H'} {a : Addr} {xs ys : List (Key × V)}, r H H' → H a = none → H' a = some (.dK xs) → r H (upd H' a (.dK ys))
theorem hid_le {H : Hp} {a : Addr} : L2.Same (hid H a) H := fun b o e => by
  by_cases h : b = a
  · rw [h, hid_same] at e
    cases e
  · rwa [hid_ne h] at e
theorem hid_mono {H H' : Hp} {a : Addr} (s : L2.Same H H') : L2.Same (hid H a) (hid H' a) := fun b o e => by
  by_cases h : b = a
  · rw [h, hid_same] at e
    cases e
  · rw [hid_ne h] at e ⊢
    exact s b o e
def OSame : Ord where
  r := L2.Same
  ok := fun _ => True
  okr := fun _ _ => True.intro
  refl := L2.Same.refl
  trans := L2.Same.trans
  same := id
  ext := LamX.ExtN.of
  hid := fun s _ => hid_mono s
  mutl := fun s h e => same_mut s (nl_none s h e)
  drop := fun s h e' b o e => by rw [hid_ne (ne_of_none e (nl_none s h e'))]; exact s b o e
  mutd := fun s h e => same_mut s h
mutual
theorem Rp.mono {K : PySem.W.Frag} {H H' : Hp} (e : LamX.ExtN H H') : ∀ {v : V} {d : D}, Rp K H v d → Rp K H' v d
  | _, _, .non => .non
  | _, _, .bl b => .bl b
  | _, _, .int i => .int i
  | _, _, .str x => .str x
  | _, _, .lst h a => .lst (hp_monoL e h) (RpA.mono e a)
  | _, _, .tup h a => .tup (extN_t e h) (RpA.mono e a)
  | _, _, .drw h => .drw (h.monoN e)
  | _, _, .obj h1 h2 h3 a => .obj (e _ _ h1 fun _ z => nomatch z) h2 h3 (RpA.mono e a)
  | _, _, .scr h1 h2 => .scr (extN_l e h1) h2
  | _, _, .lam h => .lam (h.ext e)
  | _, _, .dct h1 h2 h3 a => .dct (e _ _ h1 fun _ z => nomatch z) h2 h3 (RpA.mono e a)
  | _, _, .adr a => .adr a
theorem RpA.mono {K : PySem.W.Frag} {H H' : Hp} (e : LamX.ExtN H H') : ∀ {vs : List V} {ds : List D}, RpA K H vs ds → RpA K H' vs ds
  | _, _, .nil => .nil
  | _, _, .cons h r => .cons (Rp.mono e h) (RpA.mono e r)
end
theorem RpA.len {K : PySem.W.Frag} {H : Hp} : ∀ {vs : List V} {ds : List D}, RpA K H vs ds → vs.length = ds.length
  | _, _, .nil => rfl
  | _, _, .cons _ r => congrArg (· + 1) (RpA.len r)
theorem RpA.get {K : PySem.W.Frag} {H : Hp} : ∀ {vs : List V} {ds : List D} {i : Nat} {v : V}, RpA K H vs ds → vs[i]? = some v → ∃ d, ds[i]? = some d ∧ Rp K H v d
  | _, _, _, _, .nil, e => by simp at e
  | _, _, 0, _, .cons h _, e => by simp at e; subst e; exact ⟨_, rfl, h⟩
  | _, _, i + 1, v, .cons _ r, e => by
    obtain ⟨d, h1, h2⟩ := RpA.get (i := i) (v := v) r (by simpa using e)
    exact ⟨d, by simpa using h1, h2⟩
theorem RpA.get2 {K : PySem.W.Frag} {H : Hp} {vs : List V} {ds : List D} {i : Nat} {d : D} (h : RpA K H vs ds) (e : ds[i]? = some d) : ∃ v, vs[i]? = some v ∧ Rp K H v d := by
  have hi : i < ds.length := (List.getElem?_eq_some_iff.mp e).1
  rw [← RpA.len h] at hi
  obtain ⟨d', e', q⟩ := RpA.get h (List.getElem?_eq_getElem hi)
  rw [e] at e'
  cases e'
  exact ⟨_, List.getElem?_eq_getElem hi, q⟩
theorem RpA.snoc {K : PySem.W.Frag} {H : Hp} : ∀ {vs : List V} {ds : List D} {v : V} {d : D}, RpA K H vs ds → Rp K H v d → RpA K H (vs ++ [v]) (ds ++ [d])
  | _, _, _, _, .nil, h => .cons h .nil
  | _, _, _, _, .cons h r, q => .cons h (RpA.snoc r q)
theorem RpA.app {K : PySem.W.Frag} {H : Hp} : ∀ {vs vs' : List V} {ds ds' : List D}, RpA K H vs ds → RpA K H vs' ds' → RpA K H (vs ++ vs') (ds ++ ds')
  | _, _, _, _, .nil, h => h
  | _, _, _, _, .cons h r, q => .cons h (RpA.app r q)
theorem RpA.drop {K : PySem.W.Frag} {H : Hp} : ∀ {vs : List V} {ds : List D} (n : Nat), RpA K H vs ds → RpA K H (vs.drop n) (ds.drop n)
  | _, _, 0, r => r
  | _, _, _ + 1, .nil => .nil
  | _, _, n + 1, .cons _ r => RpA.drop n r
theorem RpA.take {K : PySem.W.Frag} {H : Hp} : ∀ {vs : List V} {ds : List D} (n : Nat), RpA K H vs ds → RpA K H (vs.take n) (ds.take n)
  | _, _, 0, r => .nil
  | _, _, _ + 1, .nil => .nil
  | _, _, n + 1, .cons h r => .cons h (RpA.take n r)
abbrev dI (ns : List Int) : List D := ns.map D.int
theorem rpInts_inv {K : PySem.W.Frag} {H : Hp} : ∀ {ns : List Int} {vs : List V}, RpA K H vs (dI ns) → vs = ns.map V.int
  | [], _, .nil => rfl
  | n :: ns, _, .cons h r => by
    cases h
    rw [rpInts_inv (ns := ns) r]
    rfl
theorem rpBls_inv {K : PySem.W.Frag} {H : Hp} : ∀ {ns : List Bool} {vs : List V}, RpA K H vs (ns.map D.bl) → vs = ns.map V.bl
  | [], _, .nil => rfl
  | n :: ns, _, .cons h r => by
    cases h
    rw [rpBls_inv (ns := ns) r]
    rfl
def FrD (Hs H : Hp) : Nat → V → D → Prop
  | 0, _, _ => True
  | n + 1, v, d => ∀ ds, d = .lst ds → ∃ a vs, v = .ref a ∧ NL Hs a ∧ H a = some (.lst vs) ∧ ∀ (i : Nat) x e, vs[i]? = some x → ds[i]? = some e → FrD Hs H n x e
def FrA (Hs H : Hp) (n : Nat) (vs : List V) (ds : List D) : Prop := ∀ (i : Nat) x e, vs[i]? = some x → ds[i]? = some e → FrD Hs H n x e
theorem FrD.mono {Hs H H' : Hp} (e : LamX.ExtN H H') : ∀ {n : Nat} {v : V} {d : D}, FrD Hs H n v d → FrD Hs H' n v d
  | 0, _, _, _ => True.intro
  | n + 1, v, d, h => fun ds hd => by
    obtain ⟨a, vs, h1, h2, h3, h4⟩ := h ds hd
    exact ⟨a, vs, h1, h2, hp_monoL e h3, fun i x e' p q => FrD.mono e (h4 i x e' p q)⟩
theorem FrD.base {Hs Hs' H : Hp} (e : ∀ a, NL Hs' a → NL Hs a) : ∀ {n : Nat} {v : V} {d : D}, FrD Hs' H n v d → FrD Hs H n v d
  | 0, _, _, _ => True.intro
  | n + 1, v, d, h => fun ds hd => by
    obtain ⟨a, vs, h1, h2, h3, h4⟩ := h ds hd
    exact ⟨a, vs, h1, e a h2, h3, fun i x e' p q => FrD.base e (h4 i x e' p q)⟩
theorem FrD.nl {Hs H : Hp} {n : Nat} {v : V} {d : D} (h : ∀ ds, d ≠ .lst ds) : FrD Hs H n v d := by
  cases n with
  | zero => exact True.intro
  | succ n => exact fun ds e => absurd e (h ds)
theorem FrA.mono {Hs H H' : Hp} {n : Nat} {vs : List V} {ds : List D} (h : FrA Hs H n vs ds) (e : LamX.ExtN H H') : FrA Hs H' n vs ds := fun i x d p q => (h i x d p q).mono e
theorem FrA.nil {Hs H : Hp} {n : Nat} : FrA Hs H n [] [] := fun i x d p q => by simp at p
theorem FrA.cons {Hs H : Hp} {n : Nat} {v : V} {vs : List V} {d : D} {ds : List D} (h : FrD Hs H n v d) (r : FrA Hs H n vs ds) : FrA Hs H n (v :: vs) (d :: ds) := fun i x e p q => by
  cases i with
  | zero =>
    simp at p q
    subst p
    subst q
    exact h
  | succ i => exact r i x e (by simpa using p) (by simpa using q)
theorem FrA.zero {Hs H : Hp} {vs : List V} {ds : List D} : FrA Hs H 0 vs ds := fun _ _ _ _ _ => True.intro
structure Er where
  C : Addr
  fs : List (Str × V)
abbrev MM (α : Type) := (α → Prop) → (Er → Prop) → Prop
abbrev M := MM D
def ret {α : Type} (d : α) : MM α := fun Q _ => Q d
def bnd {α β : Type} (m : MM α) (f : α → MM β) : MM β := fun Q E => m (fun d => f d Q E) E
def need {α : Type} (p : Prop) (m : MM α) : MM α := fun Q E => p ∧ m Q E
def stuck {α : Type} : MM α := fun _ _ => False
def RzE (O : Ord) (E : XK) (e : Er) (H : Hp) : Prop := ∀ d H', O.r H H' → H' d = some (.xd e.fs) → E (.ref e.C) (some d) H'
theorem RzE.mono {O : Ord} {E : XK} {e : Er} {H H' : Hp} (h : RzE O E e H) (o : O.r H H') : RzE O E e H' := fun d H2 o2 x => h d H2 (O.trans o o2) x
def Rs (K : PySem.W.Frag) (O : Ord) (Hs : Hp) (E : XK) (H : Hp) (n : Nat) (m : M) (Q : VK) : Prop :=
  ∃ Q0 E0, m Q0 E0 ∧ (∀ d v H', Q0 d → O.r H H' → Rp K H' v d → FrD Hs H' n v d → Q v H') ∧ (∀ e, E0 e → RzE O E e H)
def RsL (K : PySem.W.Frag) (O : Ord) (Hs : Hp) (E : XK) (H : Hp) (n N : Nat) (m : MM (List D)) (Q : List V → Hp → Prop) : Prop :=
  ∃ Q0 E0, m Q0 E0 ∧ (∀ ds vs H', Q0 ds → ds.length = N → O.r H H' → RpA K H' vs ds → FrA Hs H' n vs ds → Q vs H') ∧ (∀ e, E0 e → RzE O E e H)
def RsB (O : Ord) (E : XK) (H : Hp) (m : MM Bool) (Q : Bool → Hp → Prop) : Prop :=
  ∃ Q0 E0, m Q0 E0 ∧ (∀ b H', Q0 b → O.r H H' → Q b H') ∧ (∀ e, E0 e → RzE O E e H)
section
variable {K : PySem.W.Frag} {O : Ord} {Hs : Hp} {E : XK} {H : Hp} {n N : Nat} {Q : VK}
theorem Rs.ret {d : D} {v : V} (h : Rs K O Hs E H n (ret d) Q) (r : Rp K H v d) (f : FrD Hs H n v d) : Q v H := by
  obtain ⟨Q0, E0, hm, hq, _⟩ := h
  exact hq d v H hm (O.refl H) r f
theorem Rs.ret' {d : D} {v : V} {H' : Hp} (h : Rs K O Hs E H n (Wk.ret d) Q) (o : O.r H H') (r : Rp K H' v d) (f : FrD Hs H' n v d) : Q v H' := by
  obtain ⟨Q0, E0, hm, hq, _⟩ := h
  exact hq d v H' hm o r f
theorem Rs.need {p : Prop} {m : M} (h : Rs K O Hs E H n (need p m) Q) : p ∧ Rs K O Hs E H n m Q := by
  obtain ⟨Q0, E0, hm, hq, he⟩ := h
  exact ⟨hm.1, Q0, E0, hm.2, hq, he⟩
theorem Rs.bnd {m : M} {f : D → M} (h : Rs K O Hs E H n (bnd m f) Q) (n' : Nat) : Rs K O Hs E H n' m fun v H1 => ∃ d, O.r H H1 ∧ Rp K H1 v d ∧ FrD Hs H1 n' v d ∧ Rs K O Hs E H1 n (f d) Q := by
  obtain ⟨Q0, E0, hm, hq, he⟩ := h
  exact ⟨fun d => f d Q0 E0, E0, hm, fun d v H1 hd o r fr => ⟨d, o, r, fr, Q0, E0, hd, fun d2 v2 H2 q o2 r2 f2 => hq d2 v2 H2 q (O.trans o o2) r2 f2, fun e z => (he e z).mono o⟩, he⟩
theorem Rs.bndL {m : MM (List D)} {f : List D → M} (h : Rs K O Hs E H n (Wk.bnd m f) Q) (n' : Nat) : RsL K O Hs E H n' N m fun vs H1 => ∃ ds, ds.length = N ∧ O.r H H1 ∧ RpA K H1 vs ds ∧ FrA Hs H1 n' vs ds ∧ Rs K O Hs E H1 n (f ds) Q := by
  obtain ⟨Q0, E0, hm, hq, he⟩ := h
  exact ⟨fun d => f d Q0 E0, E0, hm, fun ds vs H1 hd hl o r fr => ⟨ds, hl, o, r, fr, Q0, E0, hd, fun d2 v2 H2 q o2 r2 f2 => hq d2 v2 H2 q (O.trans o o2) r2 f2, fun e z => (he e z).mono o⟩, he⟩
theorem Rs.bndB {m : MM Bool} {f : Bool → M} (h : Rs K O Hs E H n (Wk.bnd m f) Q) : RsB O E H m fun b H1 => O.r H H1 ∧ Rs K O Hs E H1 n (f b) Q := by
  obtain ⟨Q0, E0, hm, hq, he⟩ := h
  exact ⟨fun d => f d Q0 E0, E0, hm, fun b H1 hd o => ⟨o, Q0, E0, hd, fun d2 v2 H2 q o2 r2 f2 => hq d2 v2 H2 q (O.trans o o2) r2 f2, fun e z => (he e z).mono o⟩, he⟩
theorem RsB.bndB {m : MM Bool} {f : Bool → MM Bool} {Q : Bool → Hp → Prop} (h : RsB O E H (Wk.bnd m f) Q) : RsB O E H m fun b H1 => O.r H H1 ∧ RsB O E H1 (f b) Q := by
  obtain ⟨Q0, E0, hm, hq, he⟩ := h
  exact ⟨fun d => f d Q0 E0, E0, hm, fun b H1 hd o => ⟨o, Q0, E0, hd, fun b2 H2 q o2 => hq b2 H2 q (O.trans o o2), fun e z => (he e z).mono o⟩, he⟩
theorem RsB.ret {b : Bool} {Q : Bool → Hp → Prop} (h : RsB O E H (Wk.ret b) Q) : Q b H := by
  obtain ⟨Q0, E0, hm, hq, _⟩ := h
  exact hq b H hm (O.refl H)
theorem RsL.bnd {m : M} {f : D → MM (List D)} {Q : List V → Hp → Prop} (h : RsL K O Hs E H n N (Wk.bnd m f) Q) (n' : Nat) : Rs K O Hs E H n' m fun v H1 => ∃ d, O.r H H1 ∧ Rp K H1 v d ∧ FrD Hs H1 n' v d ∧ RsL K O Hs E H1 n N (f d) Q := by
  obtain ⟨Q0, E0, hm, hq, he⟩ := h
  exact ⟨fun d => f d Q0 E0, E0, hm, fun d v H1 hd o r fr => ⟨d, o, r, fr, Q0, E0, hd, fun d2 v2 H2 q hl o2 r2 f2 => hq d2 v2 H2 q hl (O.trans o o2) r2 f2, fun e z => (he e z).mono o⟩, he⟩
theorem Rs.imp {m : M} {Q' : VK} (h : Rs K O Hs E H n m Q) (f : ∀ v H', O.r H H' → Q v H' → Q' v H') : Rs K O Hs E H n m Q' := by
  obtain ⟨Q0, E0, hm, hq, he⟩ := h
  exact ⟨Q0, E0, hm, fun d v H' q o r fr => f v H' o (hq d v H' q o r fr), he⟩
end
inductive Sl where
  | no | fz (d : D) | lt (d : D) | fr (n : Nat) (d : D) | ow (ds : List D) | fs (n : Nat) (d : D)
abbrev En := List Sl
def SlA (K : PySem.W.Frag) (Hs H : Hp) : Option V → Sl → Prop
  | _, .no => True
  | some v, .fz d => Rp K H v d
  | some v, .lt d => Rp K H v d
  | some v, .fr n d => Rp K H v d ∧ FrD Hs H n v d
  | some v, .fs _ d => Rp K H v d
  | _, _ => False
def RelS (K : PySem.W.Frag) (Hs H : Hp) (σ : L2.St) (ρ : En) : Prop := σ.length = ρ.length ∧ ∀ (i : Nat) s, ρ[i]? = some s → SlA K Hs H (σ[i]?.join) s
theorem SlA.mono {K : PySem.W.Frag} {Hs H H' : Hp} (e : LamX.ExtN H H') : ∀ {v : Option V} {s : Sl}, SlA K Hs H v s → SlA K Hs H' v s
  | _, .no, _ => True.intro
  | some _, .fz _, h => Rp.mono e h
  | some _, .lt _, h => Rp.mono e h
  | some _, .fr _ _, h => ⟨Rp.mono e h.1, h.2.mono e⟩
  | some _, .fs _ _, h => Rp.mono e h
  | none, .fs _ _, h => h.elim
  | none, .fz _, h => h.elim
  | none, .lt _, h => h.elim
  | none, .fr _ _, h => h.elim
  | none, .ow _, h => h.elim
  | some _, .ow _, h => h.elim
theorem RelS.mono {K : PySem.W.Frag} {Hs H H' : Hp} {σ : L2.St} {ρ : En} (h : RelS K Hs H σ ρ) (e : LamX.ExtN H H') : RelS K Hs H' σ ρ := ⟨h.1, fun i s hs => (h.2 i s hs).mono e⟩
def rdS : Option Sl → M
  | some (.fz d) => ret d
  | some (.lt d) => ret d
  | some (.fr _ d) => ret d
  | some (.fs _ d) => ret d
  | _ => stuck
def rd (ρ : En) (i : Nat) : M := rdS ρ[i]?
theorem RelS.rd {K : PySem.W.Frag} {O : Ord} {Hs H : Hp} {E : XK} {σ : L2.St} {ρ : En} {Q : VK} {i : Nat} (h : RelS K Hs H σ ρ) (m : Rs K O Hs E H 0 (rd ρ i) Q) : ∃ v, σ[i]? = some (some v) ∧ Q v H := by
  unfold Wk.rd at m
  cases hs : ρ[i]? with
  | none =>
    rw [hs] at m
    obtain ⟨_, _, z, _⟩ := m
    exact z.elim
  | some s =>
    rw [hs] at m
    have hv := h.2 i s hs
    cases hx : σ[i]?.join with
    | none =>
      rw [hx] at hv
      cases s with
      | no => obtain ⟨_, _, z, _⟩ := m; exact z.elim
      | fz d => exact hv.elim
      | lt d => exact hv.elim
      | fr n d => exact hv.elim
      | fs n d => exact hv.elim
      | ow ds => exact hv.elim
    | some v =>
      have hx' : σ[i]? = some (some v) := by
        cases hz : σ[i]? with
        | none => rw [hz] at hx; cases hx
        | some o =>
          rw [hz] at hx
          have : o = some v := hx
          rw [this]
      rw [hx] at hv
      refine ⟨v, hx', ?_⟩
      cases s with
      | no => obtain ⟨_, _, z, _⟩ := m; exact z.elim
      | fz d => exact m.ret hv True.intro
      | lt d => exact m.ret hv True.intro
      | fr n d => exact m.ret hv.1 True.intro
      | fs n d => exact m.ret hv True.intro
      | ow ds => exact hv.elim
end Wk

set_option Elab.async false
set_option linter.all false
set_option maxRecDepth 100000
set_option maxHeartbeats 4000000
namespace Wk
open PySem PySem.Spec PyProof.Rows L2
def tV (K : PySem.W.Frag) (O : Ord) (Hs : Hp) (E : XK) (n : Nat) (f : En → M) : TE := fun σ H Q => ∃ ρ, RelS K Hs H σ ρ ∧ O.r Hs H ∧ Rs K O Hs E H n (f ρ) Q
def tVA (K : PySem.W.Frag) (O : Ord) (Hs : Hp) (E : XK) (n N : Nat) (f : En → MM (List D)) : TA := fun σ H Q => ∃ ρ, RelS K Hs H σ ρ ∧ O.r Hs H ∧ RsL K O Hs E H n N (f ρ) Q
def tVB (K : PySem.W.Frag) (O : Ord) (Hs : Hp) (E : XK) (f : En → MM Bool) : TT := fun σ H Q => ∃ ρ, RelS K Hs H σ ρ ∧ O.r Hs H ∧ RsB O E H (f ρ) Q
class CV (K : PySem.W.Frag) (O : Ord) (E : XK) (n : Nat) (te : TE) (f : outParam (En → M)) : Prop where
  go : ∀ Hs, O.ok Hs → ∀ σ H Q, tV K O Hs E n f σ H Q → te σ H Q
class CVA (K : PySem.W.Frag) (O : Ord) (E : XK) (n : Nat) (ta : TA) (N : outParam Nat) (f : outParam (En → MM (List D))) : Prop where
  go : ∀ Hs, O.ok Hs → ∀ σ H Q, tVA K O Hs E n N f σ H Q → ta σ H Q
class CVT (K : PySem.W.Frag) (O : Ord) (E : XK) (tt : TT) (f : outParam (En → MM Bool)) : Prop where
  go : ∀ Hs, O.ok Hs → ∀ σ H Q, tVB K O Hs E f σ H Q → tt σ H Q
class Kon (K : PySem.W.Frag) (v : V) (d : outParam D) : Prop where
  go : ∀ H, Rp K H v d
class KonA (K : PySem.W.Frag) (vs : List V) (ds : outParam (List D)) : Prop where
  go : ∀ H, RpA K H vs ds
class OpV (K : PySem.W.Frag) (O : Ord) (E : XK) (n : Nat) (r : R2) (g : outParam (D → D → M)) : Prop where
  go : ∀ Hs H x y dx dy Q, O.r Hs H → Rp K H x dx → Rp K H y dy → Rs K O Hs E H n (g dx dy) Q → r x y H Q
class UnV (K : PySem.W.Frag) (O : Ord) (E : XK) (n : Nat) (r : V → Hp → VK → Prop) (g : outParam (D → M)) : Prop where
  go : ∀ Hs H x dx Q, O.r Hs H → Rp K H x dx → Rs K O Hs E H n (g dx) Q → r x H Q
class CbV (K : PySem.W.Frag) (O : Ord) (E : XK) (n : Nat) (r : List V → Hp → VK → Prop) (g : outParam (List D → M)) : Prop where
  go : ∀ Hs H xs ds Q, O.r Hs H → RpA K H xs ds → Rs K O Hs E H n (g ds) Q → r xs H Q
section
variable {K : PySem.W.Frag} {O : Ord} {E : XK} {n N : Nat} {ta tb tc te : TE} {fa fb fc : En → M} {tA tK : TA}
instance {b : Bool} : Kon K (.bl b) (.bl b) := ⟨fun _ => .bl b⟩
instance {i : Int} : Kon K (.int i) (.int i) := ⟨fun _ => .int i⟩
instance {i : Str} : Kon K (.str i) (.str i) := ⟨fun _ => .str i⟩
instance : Kon K .non .non := ⟨fun _ => .non⟩
instance : KonA K [] [] := ⟨fun _ => .nil⟩
instance {v : V} {d : D} {vs : List V} {ds : List D} [a : Kon K v d] [b : KonA K vs ds] : KonA K (v :: vs) (d :: ds) := ⟨fun H => .cons (a.go H) (b.go H)⟩
instance {i : Nat} : CV K O E 0 (tVar i) (fun ρ => rd ρ i) := ⟨fun Hs okS σ H Q ⟨ρ, r, o, m⟩ => r.rd m⟩
instance {v : V} {d : D} [k : Kon K v d] : CV K O E 0 (tC v) (fun _ => ret d) := ⟨fun Hs okS σ H Q ⟨ρ, r, o, m⟩ => m.ret (k.go H) True.intro⟩
instance {r : R2} {g : D → D → M} [a : CV K O E 0 ta fa] [b : CV K O E 0 tb fb] [c : OpV K O E n r g] : CV K O E n (tOp r ta tb) (fun ρ => bnd (fa ρ) fun x => bnd (fb ρ) fun y => g x y) := ⟨fun Hs okS σ H Q ⟨ρ, r, o, m⟩ =>
  a.go Hs okS σ H _ ⟨ρ, r, o, (m.bnd 0).imp fun v H1 o1 ⟨d, _, rv, _, m1⟩ => b.go Hs okS σ H1 _ ⟨ρ, r.mono (O.ext o1), O.trans o o1, (m1.bnd 0).imp fun v2 H2 o2 ⟨d2, _, rv2, _, m2⟩ => c.go Hs H2 v v2 d d2 Q (O.trans (O.trans o o1) o2) (rv.mono (O.ext o2)) rv2 m2⟩⟩⟩
instance {r : V → Hp → VK → Prop} {g : D → M} [a : CV K O E 0 ta fa] [c : UnV K O E n r g] : CV K O E n (tUn r ta) (fun ρ => bnd (fa ρ) g) := ⟨fun Hs okS σ H Q ⟨ρ, r, o, m⟩ =>
  a.go Hs okS σ H _ ⟨ρ, r, o, (m.bnd 0).imp fun v H1 o1 ⟨d, _, rv, _, m1⟩ => c.go Hs H1 v d Q (O.trans o o1) rv m1⟩⟩
def asB : D → MM Bool
  | .bl b => ret b
  | _ => stuck
theorem asB_of {d : D} {Q0 : Bool → Prop} {E0 : Er → Prop} (h : asB d Q0 E0) : ∃ b, d = .bl b ∧ Q0 b := by
  cases d with
  | bl b => exact ⟨b, rfl, h⟩
  | _ => exact h.elim
theorem tst_go [a : CV K O E 0 te fa] {Hs : Hp} (okS : O.ok Hs) {σ : L2.St} {H : Hp} {Q : Bool → Hp → Prop} (h : tVB K O Hs E (fun ρ => bnd (fa ρ) asB) σ H Q) : te σ H fun x H1 => ∃ k, x = .bl k ∧ Q k H1 := by
  obtain ⟨ρ, r, o, Q0, E0, hm, hq, he⟩ := h
  refine a.go Hs okS σ H _ ⟨ρ, r, o, _, E0, hm, fun d v H1 hd o1 rv _ => ?_, he⟩
  obtain ⟨b, rfl, hb⟩ := asB_of hd
  cases rv
  exact ⟨b, rfl, hq b H1 hb o1⟩
instance [a : CV K O E 0 te fa] : CVT K O E (tTest te) (fun ρ => bnd (fa ρ) asB) := ⟨fun Hs okS σ H Q h => tst_go okS h⟩
instance [a : CV K O E 0 te fa] : CVT K O E (tB te) (fun ρ => bnd (fa ρ) asB) := ⟨fun Hs okS σ H Q h => tst_go okS h⟩
variable {tt tu : TT} {ft fu : En → MM Bool}
instance [a : CVT K O E tt ft] [b : CVT K O E tu fu] : CVT K O E (tAnd tt tu) (fun ρ => bnd (ft ρ) fun c => if c = true then fu ρ else ret false) := ⟨fun Hs okS σ H Q ⟨ρ, r, o, m⟩ => a.go Hs okS σ H _ ⟨ρ, r, o, by
  obtain ⟨Q0, E0, hm, hq, he⟩ := m.bndB
  refine ⟨Q0, E0, hm, fun c H1 hc o1 => ?_, he⟩
  obtain ⟨o2, m2⟩ := hq c H1 hc o1
  cases c with
  | true =>
    rw [if_pos rfl] at m2 ⊢
    exact b.go Hs okS σ H1 Q ⟨ρ, r.mono (O.ext o2), O.trans o o2, m2⟩
  | false =>
    rw [if_neg Bool.false_ne_true] at m2 ⊢
    exact m2.ret⟩⟩
instance [a : CVT K O E tt ft] [b : CVT K O E tu fu] : CVT K O E (tOr tt tu) (fun ρ => bnd (ft ρ) fun c => if c = true then ret true else fu ρ) := ⟨fun Hs okS σ H Q ⟨ρ, r, o, m⟩ => a.go Hs okS σ H _ ⟨ρ, r, o, by
  obtain ⟨Q0, E0, hm, hq, he⟩ := m.bndB
  refine ⟨Q0, E0, hm, fun c H1 hc o1 => ?_, he⟩
  obtain ⟨o2, m2⟩ := hq c H1 hc o1
  cases c with
  | false =>
    rw [if_neg Bool.false_ne_true] at m2 ⊢
    exact b.go Hs okS σ H1 Q ⟨ρ, r.mono (O.ext o2), O.trans o o2, m2⟩
  | true =>
    rw [if_pos rfl] at m2 ⊢
    exact m2.ret⟩⟩
instance [a : CVT K O E tt ft] : CVT K O E (tNot tt) (fun ρ => bnd (ft ρ) fun c => ret (!c)) := ⟨fun Hs okS σ H Q ⟨ρ, r, o, m⟩ => a.go Hs okS σ H _ ⟨ρ, r, o, by
  obtain ⟨Q0, E0, hm, hq, he⟩ := m.bndB
  exact ⟨Q0, E0, hm, fun c H1 hc o1 => (hq c H1 hc o1).2.ret, he⟩⟩⟩
def isB (k : Bool → M) : D → M
  | .bl b => k b
  | _ => stuck
theorem isB_of {Hs H : Hp} {d : D} {k : Bool → M} {Q : VK} (h : Rs K O Hs E H n (isB k d) Q) : ∃ b, d = .bl b ∧ Rs K O Hs E H n (k b) Q := by
  cases d with
  | bl b => exact ⟨b, rfl, h⟩
  | _ => obtain ⟨_, _, z, _⟩ := h; exact z.elim
instance [a : CV K O E 0 ta fa] [b : CV K O E 0 tb fb] : CV K O E 0 (tAndV ta tb) (fun ρ => bnd (fa ρ) (isB fun c => if c = true then fb ρ else ret (.bl false))) := ⟨fun Hs okS σ H Q ⟨ρ, r, o, m⟩ =>
  a.go Hs okS σ H _ ⟨ρ, r, o, (m.bnd 0).imp fun v H1 o1 ⟨d, _, rv, _, m1⟩ => by
    obtain ⟨c, rfl, m2⟩ := isB_of m1
    cases rv
    refine ⟨c, rfl, ?_⟩
    cases c with
    | true =>
      rw [if_pos rfl] at m2 ⊢
      exact b.go Hs okS σ H1 Q ⟨ρ, r.mono (O.ext o1), O.trans o o1, m2⟩
    | false =>
      rw [if_neg Bool.false_ne_true] at m2 ⊢
      exact m2.ret (.bl false) True.intro⟩⟩
instance [c : CVT K O E tt ft] [a : CV K O E n ta fa] [b : CV K O E n tb fb] : CV K O E n (tIf tt ta tb) (fun ρ => bnd (ft ρ) fun c => if c = true then fa ρ else fb ρ) := ⟨fun Hs okS σ H Q ⟨ρ, r, o, m⟩ => c.go Hs okS σ H _ ⟨ρ, r, o, by
  obtain ⟨Q0, E0, hm, hq, he⟩ := m.bndB
  refine ⟨Q0, E0, hm, fun c H1 hc o1 => ?_, he⟩
  obtain ⟨o2, m2⟩ := hq c H1 hc o1
  cases c with
  | true =>
    rw [if_pos rfl] at m2 ⊢
    exact a.go Hs okS σ H1 Q ⟨ρ, r.mono (O.ext o2), O.trans o o2, m2⟩
  | false =>
    rw [if_neg Bool.false_ne_true] at m2 ⊢
    exact b.go Hs okS σ H1 Q ⟨ρ, r.mono (O.ext o2), O.trans o o2, m2⟩⟩⟩
instance {r r' : R2} {g g' : D → D → M} [a : CV K O E 0 ta fa] [b : CV K O E 0 tb fb] [c : CV K O E 0 tc fc] [op : OpV K O E 0 r g] [op' : OpV K O E 0 r' g'] : CV K O E 0 (tChain r r' ta tb tc)
    (fun ρ => bnd (fa ρ) fun x => bnd (fb ρ) fun y => bnd (g x y) (isB fun k => if k = true then bnd (fc ρ) fun z => g' y z else ret (.bl false))) := ⟨fun Hs okS σ H Q ⟨ρ, r, o, m⟩ =>
  a.go Hs okS σ H _ ⟨ρ, r, o, (m.bnd 0).imp fun v H1 o1 ⟨d, _, rv, _, m1⟩ => b.go Hs okS σ H1 _ ⟨ρ, r.mono (O.ext o1), O.trans o o1, (m1.bnd 0).imp fun v2 H2 o2 ⟨d2, _, rv2, _, m2⟩ =>
    op.go Hs H2 v v2 d d2 _ (O.trans (O.trans o o1) o2) (rv.mono (O.ext o2)) rv2 ((m2.bnd 0).imp fun z H3 o3 ⟨d3, _, rv3, _, m3⟩ => by
      obtain ⟨k, rfl, m4⟩ := isB_of m3
      cases rv3
      refine ⟨k, rfl, ?_⟩
      have o4 := O.trans (O.trans (O.trans o o1) o2) o3
      cases k with
      | false =>
        rw [if_neg Bool.false_ne_true] at m4 ⊢
        exact m4.ret (.bl false) True.intro
      | true =>
        rw [if_pos rfl] at m4 ⊢
        exact c.go Hs okS σ H3 _ ⟨ρ, ((r.mono (O.ext o1)).mono (O.ext o2)).mono (O.ext o3), o4, (m4.bnd 0).imp fun v4 H4 o5 ⟨d4, _, rv4, _, m5⟩ => op'.go Hs H4 v2 v4 d2 d4 Q (O.trans o4 o5) ((rv2.mono (O.ext o3)).mono (O.ext o5)) rv4 m5⟩)⟩⟩⟩
instance : CVA K O E n tNil 0 (fun _ => ret []) := ⟨fun Hs okS σ H Q ⟨ρ, r, o, Q0, E0, hm, hq, he⟩ => hq [] [] H hm rfl (O.refl H) .nil FrA.nil⟩
instance {fr : En → MM (List D)} [a : CV K O E n ta fa] [b : CVA K O E n tA N fr] : CVA K O E n (tCons ta tA) (N + 1) (fun ρ => bnd (fa ρ) fun x => bnd (fr ρ) fun xs => ret (x :: xs)) := ⟨fun Hs okS σ H Q ⟨ρ, r, o, m⟩ =>
  a.go Hs okS σ H _ ⟨ρ, r, o, (m.bnd n).imp fun v H1 o1 ⟨d, _, rv, fv, m1⟩ => b.go Hs okS σ H1 _ ⟨ρ, r.mono (O.ext o1), O.trans o o1, by
    obtain ⟨Q0, E0, hm, hq, he⟩ := m1
    exact ⟨_, E0, hm, fun ds vs H2 hd hl o2 rA fA => hq (d :: ds) (v :: vs) H2 hd (by rw [List.length_cons, hl]) o2 (.cons (rv.mono (O.ext o2)) rA) (FrA.cons (fv.mono (O.ext o2)) fA), he⟩⟩⟩⟩
instance {r : List V → Hp → VK → Prop} {g : List D → M} {f : En → MM (List D)} [a : CVA K O E 0 tA N f] [c : CbV K O E n r g] : CV K O E n (tCB r tA) (fun ρ => bnd (f ρ) g) := ⟨fun Hs okS σ H Q ⟨ρ, r, o, m⟩ => a.go Hs okS σ H _ ⟨ρ, r, o, by
  obtain ⟨Q0, E0, hm, hq, he⟩ := m.bndL (N := N) 0
  refine ⟨Q0, E0, hm, fun ds vs H1 hd hl o1 rA fA => ?_, he⟩
  obtain ⟨ds', _, o2, rA', _, m2⟩ := hq ds vs H1 hd hl o1 rA fA
  exact c.go Hs H1 vs ds' Q (O.trans o o1) rA' m2⟩⟩
instance {f : En → MM (List D)} [a : CVA K O E 0 tA N f] : CV K O E 0 (tTup tA) (fun ρ => bnd (f ρ) fun ds => need (ds.length ≤ 100000) (ret (.tup ds))) := ⟨fun Hs okS σ H Q ⟨ρ, r, o, m⟩ => a.go Hs okS σ H _ ⟨ρ, r, o, by
  obtain ⟨Q0, E0, hm, hq, he⟩ := m.bndL (N := N) 0
  refine ⟨Q0, E0, hm, fun ds vs H1 hd hl o1 rA fA => ?_, he⟩
  obtain ⟨ds', _, o2, rA', _, m2⟩ := hq ds vs H1 hd hl o1 rA fA
  obtain ⟨h5, m3⟩ := m2.need
  refine ⟨by rw [rA'.len]; exact Nat.le_trans h5 (by decide), fun p hp => m3.ret' (O.same (same_new hp)) (.tup (.inl (.inl upd_same)) (rA'.mono (LamX.ExtN.of (same_new hp)))) True.intro⟩⟩⟩
instance {f : En → MM (List D)} [a : CVA K O E 0 tA N f] : CV K O E 0 (tLst tA) (fun ρ => bnd (f ρ) fun ds => need (ds.length ≤ 100000) (ret (.lst ds))) := ⟨fun Hs okS σ H Q ⟨ρ, r, o, m⟩ => a.go Hs okS σ H _ ⟨ρ, r, o, by
  obtain ⟨Q0, E0, hm, hq, he⟩ := m.bndL (N := N) 0
  refine ⟨Q0, E0, hm, fun ds vs H1 hd hl o1 rA fA => ?_, he⟩
  obtain ⟨ds', _, o2, rA', _, m2⟩ := hq ds vs H1 hd hl o1 rA fA
  obtain ⟨h5, m3⟩ := m2.need
  refine ⟨by rw [rA'.len]; exact Nat.le_trans h5 (by decide), fun p hp => m3.ret' (O.same (same_new hp)) (.lst upd_same (rA'.mono (LamX.ExtN.of (same_new hp)))) True.intro⟩⟩⟩
instance {f : En → MM (List D)} [a : CVA K O E n tA N f] : CV K O E (n + 1) (tLst tA) (fun ρ => bnd (f ρ) fun ds => need (ds.length ≤ 100000) (ret (.lst ds))) := ⟨fun Hs okS σ H Q ⟨ρ, r, o, m⟩ => a.go Hs okS σ H _ ⟨ρ, r, o, by
  obtain ⟨Q0, E0, hm, hq, he⟩ := m.bndL (N := N) n
  refine ⟨Q0, E0, hm, fun ds vs H1 hd hl o1 rA fA => ?_, he⟩
  obtain ⟨ds', _, o2, rA', fA', m2⟩ := hq ds vs H1 hd hl o1 rA fA
  obtain ⟨h5, m3⟩ := m2.need
  refine ⟨by rw [rA'.len]; exact Nat.le_trans h5 (by decide), fun p hp => m3.ret' (O.same (same_new hp)) (.lst upd_same (rA'.mono (LamX.ExtN.of (same_new hp)))) fun es e => ?_⟩
  cases e
  exact ⟨p, vs, rfl, (NL.of hp).back (O.ext (O.trans o o1)), upd_same, fA'.mono (LamX.ExtN.of (same_new hp))⟩⟩⟩
def spV (K : PySem.W.Frag) (nr N : Nat) (m : List D → M) : Sp := fun vs H Q E => ∃ ds, ds.length = N ∧ RpA K H vs ds ∧ Rs K OSame H E H nr (m ds) Q
theorem Rs.toSame {Hs H : Hp} {m : M} {Q : VK} (o : O.r Hs H) (h : Rs K O Hs E H n m Q) : Rs K OSame H E H n m Q := by
  obtain ⟨Q0, E0, hm, hq, he⟩ := h
  exact ⟨Q0, E0, hm, fun d v H' q s r f => hq d v H' q (O.same s) r (f.base fun a z => z.back (O.ext o)), fun e z d H' s => he e z d H' (O.same s)⟩
theorem FrD.less {Hs H : Hp} : ∀ {n m : Nat} {v : V} {d : D}, FrD Hs H m v d → n ≤ m → FrD Hs H n v d
  | 0, _, _, _, _, _ => True.intro
  | n + 1, m + 1, v, d, h, l => fun ds e => by
    obtain ⟨a, vs, h1, h2, h3, h4⟩ := h ds e
    exact ⟨a, vs, h1, h2, h3, fun i x e' p q => FrD.less (h4 i x e' p q) (Nat.le_of_succ_le_succ l)⟩
  | n + 1, 0, _, _, _, l => absurd l (Nat.not_succ_le_zero n)
class Le (n m : Nat) : Prop where
  go : n ≤ m
instance {m : Nat} : Le 0 m := ⟨Nat.zero_le m⟩
instance {n m : Nat} [h : Le n m] : Le (n + 1) (m + 1) := ⟨Nat.succ_le_succ h.go⟩
def lenIs (N : Nat) (g : List D → M) : List D → M := fun ds => need (ds.length = N) (g ds)
theorem sp_go {nr : Nat} {m : List D → M} {Hs H : Hp} {vs : List V} {ds : List D} {Q : VK} (l : n ≤ nr) (o : O.r Hs H) (rA : RpA K H vs ds) (h : Rs K O Hs E H n (m ds) Q) (hl : ds.length = N) : spV K nr N m vs H Q E := by
  obtain ⟨Q0, E0, hm, hq, he⟩ := h.toSame o
  exact ⟨ds, hl, rA, Q0, E0, hm, fun d v H' q s r f => hq d v H' q s r (f.less l), he⟩
instance {nr N' : Nat} {m : List D → M} {dvs : List V} {dds : List D} {f : En → MM (List D)} [a : CVA K O E 0 tA N f] [k : KonA K dvs dds] [l : Le n nr] : CV K O E n (tCall (spV K nr N' m) dvs E tA) (fun ρ => bnd (f ρ) fun ds => lenIs N' m (ds ++ dds)) := ⟨fun Hs okS σ H Q ⟨ρ, r, o, h⟩ => a.go Hs okS σ H _ ⟨ρ, r, o, by
  obtain ⟨Q0, E0, hm, hq, he⟩ := h.bndL (N := N) 0
  refine ⟨Q0, E0, hm, fun ds vs H1 hd hl o1 rA fA => ?_, he⟩
  obtain ⟨ds', _, o2, rA', _, m2⟩ := hq ds vs H1 hd hl o1 rA fA
  obtain ⟨h5, m3⟩ := m2.need
  exact sp_go l.go (O.trans o o1) (rA'.app (k.go H1)) m3 h5⟩⟩
end
end Wk

set_option Elab.async false
set_option linter.all false
set_option maxRecDepth 100000
set_option maxHeartbeats 4000000
namespace Wk
open PySem PySem.Spec PyProof.Rows L2
section
variable {X : Cx}
theorem OpR.or {f : Value → Value → Sem Value} {r r' : R2} (h : OpR X f r) (h' : OpR X f r') : OpR X f (fun x y H Q => r x y H Q ∨ r' x y H Q) := fun pins s σ H x y v u Q I rx ry q => by
  rcases q with q | q
  · exact h pins s σ H x y v u Q I rx ry q
  · exact h' pins s σ H x y v u Q I rx ry q
theorem CallR.or {f : Value} {r r' : List V → Hp → VK → Prop} (h : CallR X f r) (h' : CallR X f r') : CallR X f (fun x H Q => r x H Q ∨ r' x H Q) := fun pins s σ H xs us Q I rv q => by
  rcases q with q | q
  · exact h pins s σ H xs us Q I rv q
  · exact h' pins s σ H xs us Q I rv q
def rCatS : R2 := fun x y H Q => ∃ i j, x = .str i ∧ y = .str j ∧ i.length + j.length ≤ sizeLine ∧ Q (.str (i ++ j)) H
def rAddX (K : PySem.W.Frag) : R2 := fun x y H Q => rI0 (fun i j => .int (i + j)) x y H Q ∨ rCat x y H Q ∨ rCatA K x y H Q ∨ rCatS x y H Q
theorem op_addX (K : PySem.W.Frag) (e : X.K = K) : OpR X (binaryOp .Add) (rAddX K) := by subst e; exact OpR.or op_add (OpR.or op_cat (OpR.or op_catA op_add_str))
def rMulX : R2 := fun x y H Q => rI CMul (fun i j => .int (i * j)) x y H Q ∨ rRep x y H Q
theorem op_mulX : OpR X (binaryOp .Mult) rMulX := OpR.or op_mul op_rep
def rEqX (K : PySem.W.Frag) : R2 := fun x y H Q => rEq x y H Q ∨ rEqD K x y H Q
def rNeX (K : PySem.W.Frag) : R2 := fun x y H Q => rNe x y H Q ∨ rNeD K x y H Q
theorem op_eqX (K : PySem.W.Frag) (e : X.K = K) {k : Nat} (hr : Room k X.A) : OpR X (compareOp .Eq) (rEqX K) := OpR.or op_eq (op_eqDK K e hr)
theorem op_neX (K : PySem.W.Frag) (e : X.K = K) {k : Nat} (hr : Room k X.A) : OpR X (compareOp .NotEq) (rNeX K) := OpR.or op_ne (op_neDK K e hr)
end
mutual
def toPy : D → Option PyData
  | .non => some .none
  | .bl b => some (.bool b)
  | .int i => some (.int i)
  | .str x => some (.str x)
  | .lst ds => (toPyA ds).map .list
  | .tup ds => (toPyA ds).map .tuple
  | .drw => none
  | .obj _ _ _ => none
  | .scr => none
  | .lam _ _ _ => none
  | .dct _ _ => none
  | .adr _ => none
def toPyA : List D → Option (List PyData)
  | [] => some []
  | d :: ds => (toPy d).bind fun x => (toPyA ds).map fun xs => x :: xs
end
mutual
theorem toPy_rp {K : PySem.W.Frag} {H : Hp} : ∀ {v : V} {d : D} {p : PyData}, Rp K H v d → toPy d = some p → Dp K H v p
  | _, .non, p, h, e => by cases h; cases e; exact .non
  | _, .bl b, p, h, e => by cases h; cases e; exact .bl b
  | _, .int b, p, h, e => by cases h; cases e; exact .int b
  | _, .str b, p, h, e => by cases h; cases e; exact .str b
  | _, .lst ds, p, h, e => by
    cases h with
    | lst h1 h2 =>
      unfold toPy at e
      cases q : toPyA ds with
      | none => rw [q] at e; cases e
      | some ps =>
        rw [q] at e
        cases e
        exact .lst (SqL.of h1) (toPyA_rp h2 q)
  | _, .tup ds, p, h, e => by
    cases h with
    | tup h1 h2 =>
      unfold toPy at e
      cases q : toPyA ds with
      | none => rw [q] at e; cases e
      | some ps =>
        rw [q] at e
        cases e
        exact .tup h1 (toPyA_rp h2 q)
  | _, .drw, p, h, e => by cases e
  | _, .obj _ _ _, p, h, e => by cases e
  | _, .scr, p, h, e => by cases e
  | _, .lam _ _ _, p, h, e => by cases e
  | _, .dct _ _, p, h, e => by cases e
  | _, .adr _, p, h, e => by cases e
theorem toPyA_rp {K : PySem.W.Frag} {H : Hp} : ∀ {vs : List V} {ds : List D} {ps : List PyData}, RpA K H vs ds → toPyA ds = some ps → DpAll K H vs ps
  | _, [], ps, h, e => by cases h; cases e; exact .nil
  | _, d :: ds, ps, h, e => by
    cases h with
    | cons h1 h2 =>
      unfold toPyA at e
      cases q : toPy d with
      | none => rw [q] at e; cases e
      | some p =>
        rw [q] at e
        cases q2 : toPyA ds with
        | none => rw [q2] at e; cases e
        | some ps' =>
          rw [q2] at e
          cases e
          exact .cons (toPy_rp h1 q) (toPyA_rp h2 q2)
end
def eqDeep (neg : Bool) (x y : D) : M := fun Q _ => ∃ a b, toPy x = some a ∧ toPy y = some b ∧ SeqAt.shaped a = true ∧ SeqAt.shaped b = true ∧ Q (.bl (neg != PyData.eqv a b))
def eqM (neg : Bool) : D → D → M
  | .int i, .int j => ret (.bl (neg != decide (i = j)))
  | .str i, .str j => ret (.bl (neg != decide (i = j)))
  | x, y => eqDeep neg x y
def addM : D → D → M
  | .int i, .int j => ret (.int (i + j))
  | .lst a, .lst b => need (a.length + b.length ≤ 100000) (ret (.lst (a ++ b)))
  | .tup a, .tup b => need (a.length + b.length ≤ 100000) (ret (.tup (a ++ b)))
  | .str a, .str b => need (a.length + b.length ≤ 100000) (ret (.str (a ++ b)))
  | _, _ => stuck
def mulM : D → D → M
  | .int i, .int j => need (CMul i j) (ret (.int (i * j)))
  | .lst a, .int k => need (k ≤ 100000 ∧ -100000 ≤ k ∧ a.length * k.toNat ≤ 100000) (ret (.lst (List.replicate k.toNat a).flatten))
  | _, _ => stuck
def opII (h : Int → Int → Int) : D → D → M
  | .int i, .int j => ret (.int (h i j))
  | _, _ => stuck
def opIB (h : Int → Int → Bool) : D → D → M
  | .int i, .int j => ret (.bl (h i j))
  | _, _ => stuck
def opIIc (C : Int → Int → Prop) (h : Int → Int → Int) : D → D → M
  | .int i, .int j => need (C i j) (ret (.int (h i j)))
  | _, _ => stuck
section
variable {K : PySem.W.Frag} {O : Ord} {E : XK} {n : Nat} {Hs H : Hp} {Q : VK}
theorem Rs.stuck {C : Prop} (h : Rs K O Hs E H n stuck Q) : C := by
  obtain ⟨_, _, z, _⟩ := h
  exact z.elim
theorem Rs.more {m : M} {n' : Nat} (h : Rs K O Hs E H n m Q) (l : n ≤ n') : Rs K O Hs E H n' m Q := by
  obtain ⟨Q0, E0, hm, hq, he⟩ := h
  exact ⟨Q0, E0, hm, fun d v H' q o r f => hq d v H' q o r (f.less l), he⟩
theorem ret_int {i : Int} (h : Rs K O Hs E H n (ret (.int i)) Q) : Q (.int i) H := h.ret (.int i) (FrD.nl fun _ z => by cases z)
theorem ret_bl {i : Bool} (h : Rs K O Hs E H n (ret (.bl i)) Q) : Q (.bl i) H := h.ret (.bl i) (FrD.nl fun _ z => by cases z)
theorem ret_str {i : Str} (h : Rs K O Hs E H n (ret (.str i)) Q) : Q (.str i) H := h.ret (.str i) (FrD.nl fun _ z => by cases z)
theorem ret_lst {ds : List D} {xs : List V} [l : Le n 1] (o : O.r Hs H) (h : Rs K O Hs E H n (ret (.lst ds)) Q) (r : RpA K H xs ds) : ∀ p, H p = none → Q (.ref p) (upd H p (.lst xs)) := fun p hp =>
  (h.more l.go).ret' (O.same (same_new hp)) (.lst upd_same (r.mono (LamX.ExtN.of (same_new hp)))) fun es e => by
    cases e
    exact ⟨p, xs, rfl, (NL.of hp).back (O.ext o), upd_same, FrA.zero⟩
theorem ret_tup {ds : List D} {xs : List V} (h : Rs K O Hs E H n (ret (.tup ds)) Q) (r : RpA K H xs ds) : ∀ p, H p = none → Q (.ref p) (upd H p (.tup xs)) := fun p hp =>
  h.ret' (O.same (same_new hp)) (.tup (.inl (.inl upd_same)) (r.mono (LamX.ExtN.of (same_new hp)))) (FrD.nl fun _ z => by cases z)
instance {h : Int → Int → Int} : OpV K O E n (rI0 fun i j => .int (h i j)) (opII h) := ⟨fun Hs H x y dx dy Q o rx ry m => by
  cases dx <;> cases dy <;> first
    | (cases rx; cases ry; exact ⟨_, _, rfl, rfl, ret_int m⟩)
    | exact Rs.stuck m⟩
instance {h : Int → Int → Bool} : OpV K O E n (rI0 fun i j => .bl (h i j)) (opIB h) := ⟨fun Hs H x y dx dy Q o rx ry m => by
  cases dx <;> cases dy <;> first
    | (cases rx; cases ry; exact ⟨_, _, rfl, rfl, ret_bl m⟩)
    | exact Rs.stuck m⟩
instance {C : Int → Int → Prop} {h : Int → Int → Int} : OpV K O E n (rI C fun i j => .int (h i j)) (opIIc C h) := ⟨fun Hs H x y dx dy Q o rx ry m => by
  cases dx <;> cases dy <;> first
    | (cases rx; cases ry; obtain ⟨hc, m⟩ := m.need; exact ⟨_, _, rfl, rfl, hc, ret_int m⟩)
    | exact Rs.stuck m⟩
def unI (h : Int → Int) : D → M
  | .int i => ret (.int (h i))
  | _ => stuck
instance {h : Int → Int} : UnV K O E n (rU fun i => .int (h i)) (unI h) := ⟨fun Hs H x dx Q o rx m => by
  cases dx <;> first
    | (cases rx; exact ⟨_, rfl, ret_int m⟩)
    | exact Rs.stuck m⟩
theorem le_line {a : Nat} (h : a ≤ 100000) : a ≤ sizeLine := Nat.le_trans h (by decide)
theorem RpA.nil_of {xs : List V} {ds : List D} (r : RpA K H xs ds) (e : xs = []) : ds = [] := by
  subst e
  cases r
  rfl
instance [l : Le n 1] : OpV K O E n (rAddX K) addM := ⟨fun Hs H x y dx dy Q o rx ry m => by
  cases dx <;> cases dy <;> first
    | exact Rs.stuck m
    | (cases rx; cases ry; exact .inl ⟨_, _, rfl, rfl, ret_int m⟩)
    | (cases rx with
       | lst h1 h2 =>
       cases ry with
       | lst h3 h4 =>
       obtain ⟨hc, m⟩ := m.need
       exact .inr (.inl ⟨_, _, _, _, rfl, rfl, h1, h3, by rw [h2.len, h4.len]; exact le_line hc, ret_lst o m (h2.app h4)⟩))
    | (cases rx with
       | tup h1 h2 =>
       cases ry with
       | tup h3 h4 =>
       obtain ⟨hc, m⟩ := m.need
       refine .inr (.inr (.inl ⟨_, _, _, _, rfl, rfl, h1, h3, by rw [h2.len, h4.len]; exact le_line hc, fun e => ?_, fun _ e => ?_, fun _ _ => ret_tup m (h2.app h4)⟩))
       · rw [h2.nil_of e, List.nil_append] at m
         exact m.ret (.tup h3 h4) (FrD.nl fun _ z => by cases z)
       · rw [h4.nil_of e, List.append_nil] at m
         exact m.ret (.tup h1 h2) (FrD.nl fun _ z => by cases z))
    | (cases rx; cases ry; obtain ⟨hc, m⟩ := m.need; exact .inr (.inr (.inr ⟨_, _, rfl, rfl, le_line hc, ret_str m⟩)))⟩
theorem RpA.rep {xs : List V} {ds : List D} (r : RpA K H xs ds) : ∀ k : Nat, RpA K H (List.replicate k xs).flatten (List.replicate k ds).flatten
  | 0 => .nil
  | k + 1 => by
    rw [List.replicate_succ, List.replicate_succ, List.flatten_cons, List.flatten_cons]
    exact r.app (RpA.rep r k)
instance [l : Le n 1] : OpV K O E n rMulX mulM := ⟨fun Hs H x y dx dy Q o rx ry m => by
  cases dx <;> cases dy <;> first
    | exact Rs.stuck m
    | (cases rx; cases ry; obtain ⟨hc, m⟩ := m.need; exact .inl ⟨_, _, rfl, rfl, hc, ret_int m⟩)
    | (cases rx with
       | lst h1 h2 =>
       cases ry
       obtain ⟨⟨hc, hd, he⟩, m⟩ := m.need
       exact .inr ⟨_, _, _, rfl, rfl, h1, by omega, by omega, by rw [h2.len]; exact le_line he, ret_lst o m (h2.rep _)⟩)⟩
theorem eqDeep_go {neg : Bool} {x y : V} {dx dy : D} (rx : Rp K H x dx) (ry : Rp K H y dy) (m : Rs K O Hs E H n (eqDeep neg dx dy) Q) : ∃ d e, Dp K H x d ∧ Dp K H y e ∧ SeqAt.shaped d = true ∧ SeqAt.shaped e = true ∧ Q (.bl (neg != PyData.eqv d e)) H := by
  obtain ⟨Q0, E0, ⟨a, b, h1, h2, h3, h4, h5⟩, hq, he⟩ := m
  exact ⟨a, b, toPy_rp rx h1, toPy_rp ry h2, h3, h4, hq _ _ H h5 (O.refl H) (.bl _) (FrD.nl fun _ z => by cases z)⟩
theorem bne_f (b : Bool) : (false != b) = b := by cases b <;> rfl
theorem bne_t (b : Bool) : (true != b) = !b := by cases b <;> rfl
theorem eqM_go {neg : Bool} {x y : V} {dx dy : D} (rx : Rp K H x dx) (ry : Rp K H y dy) (m : Rs K O Hs E H n (eqM neg dx dy) Q) : (scal x y = true ∧ Q (.bl (neg != decide (x = y))) H) ∨ ∃ d e, Dp K H x d ∧ Dp K H y e ∧ SeqAt.shaped d = true ∧ SeqAt.shaped e = true ∧ Q (.bl (neg != PyData.eqv d e)) H := by
  cases dx <;> cases dy <;> first
    | exact .inr (eqDeep_go rx ry m)
    | (cases rx
       cases ry
       refine .inl ⟨rfl, ?_⟩
       have := ret_bl m
       simp only [V.int.injEq, V.str.injEq]
       exact this)
instance : OpV K O E n (rEqX K) (eqM false) := ⟨fun Hs H x y dx dy Q o rx ry m => by
  rcases eqM_go rx ry m with ⟨h1, h2⟩ | ⟨d, e, h1, h2, h3, h4, h5⟩
  · exact .inl ⟨h1, by rw [bne_f] at h2; exact h2⟩
  · exact .inr ⟨d, e, h1, h2, h3, h4, by rw [bne_f] at h5; exact h5⟩⟩
instance : OpV K O E n (rNeX K) (eqM true) := ⟨fun Hs H x y dx dy Q o rx ry m => by
  rcases eqM_go rx ry m with ⟨h1, h2⟩ | ⟨d, e, h1, h2, h3, h4, h5⟩
  · exact .inl ⟨h1, by rw [bne_t] at h2; exact h2⟩
  · exact .inr ⟨d, e, h1, h2, h3, h4, by rw [bne_t] at h5; exact h5⟩⟩
def sclD : D → Bool
  | .non | .bl _ | .int _ | .str _ => true
  | _ => false
def vOf : D → V
  | .bl b => .bl b
  | .int b => .int b
  | .str b => .str b
  | _ => .non
theorem vOf_rp {x : V} {dx : D} (rx : Rp K H x dx) (h : sclD dx = true) : x = vOf dx ∧ flatV x = true := by
  cases rx <;> first
    | exact ⟨rfl, rfl⟩
    | cases h
theorem vOfA_rp : ∀ {xs : List V} {ds : List D}, RpA K H xs ds → ds.all sclD = true → xs = ds.map vOf ∧ xs.all flatV = true
  | _, _, .nil, _ => ⟨rfl, rfl⟩
  | _, _, .cons h r, a => by
    rw [List.all_cons, Bool.and_eq_true] at a
    obtain ⟨h1, h2⟩ := vOf_rp h a.1
    obtain ⟨h3, h4⟩ := vOfA_rp r a.2
    exact ⟨by rw [h1, h3]; rfl, by rw [List.all_cons, h2, h4]; rfl⟩
def inD (x : D) (ds : List D) : Bool := inV (vOf x) (ds.map vOf)
def inM (neg : Bool) : D → D → M
  | x, .lst ds => need (sclD x = true ∧ ds.all sclD = true) (ret (.bl (neg != inD x ds)))
  | x, .tup ds => need (sclD x = true ∧ ds.all sclD = true) (ret (.bl (neg != inD x ds)))
  | _, _ => stuck
theorem Rp.sq {a : Addr} {ds : List D} (h : Rp K H (.ref a) (.lst ds)) : ∃ xs, H a = some (.lst xs) ∧ RpA K H xs ds := by
  cases h with
  | lst h1 h2 => exact ⟨_, h1, h2⟩
theorem in_go {neg : Bool} {x : V} {dx : D} {a : Addr} {ys : List V} {ds : List D} (rx : Rp K H x dx) (hS : Sq K H a ys) (r : RpA K H ys ds) (m : Rs K O Hs E H n (need (sclD dx = true ∧ ds.all sclD = true) (ret (.bl (neg != inD dx ds)))) Q) : rInQ K neg x (.ref a) H Q := by
  obtain ⟨⟨h1, h2⟩, m2⟩ := m.need
  have m3 := ret_bl m2
  obtain ⟨e1, e2⟩ := vOf_rp rx h1
  obtain ⟨e3, e4⟩ := vOfA_rp r h2
  refine ⟨_, _, rfl, hS, e2, e4, ?_⟩
  rw [e1, e3]
  cases neg
  · rw [bne_f] at m3; exact m3
  · rw [bne_t] at m3; exact m3
instance {neg : Bool} : OpV K O E n (rInQ K neg) (inM neg) := ⟨fun Hs H x y dx dy Q o rx ry m => by
  cases dy <;> first
    | exact Rs.stuck m
    | (cases ry with
       | lst h3 h4 => exact in_go rx (sqL h3) h4 m)
    | (cases ry with
       | tup h3 h4 => exact in_go rx (.inr h3) h4 m)⟩
def ixM : D → D → M
  | .lst ds, .int i => fun Q _ => ∃ d, atI ds i = some d ∧ Q d
  | .tup ds, .int i => fun Q _ => ∃ d, atI ds i = some d ∧ Q d
  | _, _ => stuck
theorem atI_rp {xs : List V} {ds : List D} {i : Int} {d : D} (r : RpA K H xs ds) (h : atI ds i = some d) : ∃ v, atI xs i = some v ∧ Rp K H v d := by
  unfold atI at h ⊢
  rw [r.len]
  cases q : ixN ds.length i with
  | none => rw [q] at h; cases h
  | some j =>
    rw [q] at h
    exact r.get2 h
instance : OpV K O E 0 (rIxQ K) ixM := ⟨fun Hs H x y dx dy Q o rx ry m => by
  cases dx <;> cases dy <;> first
    | exact Rs.stuck m
    | (cases ry
       obtain ⟨Q0, E0, ⟨d, h1, h2⟩, hq, he⟩ := m
       cases rx with
       | lst h3 h4 =>
         obtain ⟨v, h5, h6⟩ := atI_rp h4 h1
         exact ⟨_, _, _, v, rfl, rfl, sqL h3, h5, hq d v H h2 (O.refl H) h6 True.intro⟩)
    | (cases ry
       obtain ⟨Q0, E0, ⟨d, h1, h2⟩, hq, he⟩ := m
       cases rx with
       | tup h3 h4 =>
         obtain ⟨v, h5, h6⟩ := atI_rp h4 h1
         exact ⟨_, _, _, v, rfl, rfl, .inr h3, h5, hq d v H h2 (O.refl H) h6 True.intro⟩)⟩
def seqM (k : List D → M) : List D → M
  | [.lst ds] => k ds
  | [.tup ds] => k ds
  | _ => stuck
theorem seqM_go {k : List D → M} {xs : List V} {ds : List D} (r : RpA K H xs ds) (m : Rs K O Hs E H n (seqM k ds) Q) : ∃ a ys es, xs = [.ref a] ∧ Sq K H a ys ∧ RpA K H ys es ∧ Rs K O Hs E H n (k es) Q ∧ (SqT K H a ys → Rp K H (.ref a) (.tup es)) := by
  cases r with
  | nil => exact Rs.stuck m
  | @cons x xs d ds h r =>
    cases r with
    | cons _ _ => cases d <;> exact Rs.stuck m
    | nil =>
      cases d <;> first
        | exact Rs.stuck m
        | (cases h with
           | lst h1 h2 => exact ⟨_, _, _, rfl, sqL h1, h2, m, fun z => .tup z h2⟩)
        | (cases h with
           | tup h1 h2 => exact ⟨_, _, _, rfl, .inr h1, h2, m, fun z => .tup z h2⟩)
def lenM : List D → M := seqM fun ds => ret (.int ds.length)
def listM : List D → M := seqM fun ds => ret (.lst ds)
def tupM : List D → M := seqM fun ds => ret (.tup ds)
instance : CbV K O E n (rLenQ K) lenM := ⟨fun Hs H xs ds Q o r m => by
  obtain ⟨a, ys, es, rfl, h1, h2, m2, _⟩ := seqM_go r m
  refine ⟨a, ys, rfl, h1, ?_⟩
  rw [h2.len]
  exact ret_int m2⟩
instance [l : Le n 1] : CbV K O E n (rListQ K) listM := ⟨fun Hs H xs ds Q o r m => by
  obtain ⟨a, ys, es, rfl, h1, h2, m2, _⟩ := seqM_go r m
  exact ⟨a, ys, rfl, h1, ret_lst o m2 h2⟩⟩
instance : CbV K O E n (rTupQ K) tupM := ⟨fun Hs H xs ds Q o r m => by
  obtain ⟨a, ys, es, rfl, h1, h2, m2, _⟩ := seqM_go r m
  exact ⟨a, ys, rfl, h1, fun l H' sm st => m2.ret' (O.same sm) (.tup st (h2.mono (LamX.ExtN.of sm))) (FrD.nl fun _ z => by cases z)⟩⟩
def blsM (k : List Bool → M) : List D → M := fun ds Q E => ∃ ns : List Bool, ds = [.lst (ns.map D.bl)] ∧ k ns Q E
theorem blsM_go {k : List Bool → M} {xs : List V} {ds : List D} (r : RpA K H xs ds) (m : Rs K O Hs E H n (blsM k ds) Q) : ∃ a ns, xs = [.ref a] ∧ H a = some (.lst (ns.map V.bl)) ∧ Rs K O Hs E H n (k ns) Q := by
  obtain ⟨Q0, E0, ⟨ns, rfl, hk⟩, hq, he⟩ := m
  cases r with
  | cons h r =>
    cases r
    cases h with
    | lst h1 h2 =>
      rw [rpBls_inv h2] at h1
      exact ⟨_, ns, rfl, h1, Q0, E0, hk, hq, he⟩
instance : CbV K O E n (rAll K) (blsM fun ns => ret (.bl (ns.all id))) := ⟨fun Hs H xs ds Q o r m => by
  obtain ⟨a, ns, rfl, h1, m2⟩ := blsM_go r m
  exact ⟨a, ns, rfl, SqL.of h1, ret_bl m2⟩⟩
instance : CbV K O E n (rAny K) (blsM fun ns => ret (.bl (ns.any id))) := ⟨fun Hs H xs ds Q o r m => by
  obtain ⟨a, ns, rfl, h1, m2⟩ := blsM_go r m
  exact ⟨a, ns, rfl, SqL.of h1, ret_bl m2⟩⟩
def rIntX : List V → Hp → VK → Prop := fun xs H Q => (∃ i, xs = [.int i] ∧ Q (.int i) H) ∨ ∃ k, xs = [.bl k] ∧ Q (.int (if k then 1 else 0)) H
theorem call_intX {X : Cx} : CallR X (.type "int") rIntX := call_int1
def intM : List D → M
  | [.int i] => ret (.int i)
  | [.bl k] => ret (.int (if k then 1 else 0))
  | _ => stuck
instance : CbV K O E n rIntX intM := ⟨fun Hs H xs ds Q o r m => by
  cases r with
  | nil => exact Rs.stuck m
  | @cons x xs d ds h r =>
    cases r with
    | cons _ _ => cases d <;> exact Rs.stuck m
    | nil => cases d <;> first | exact Rs.stuck m | (cases h; exact .inl ⟨_, rfl, ret_int m⟩) | (cases h; exact .inr ⟨_, rfl, ret_int m⟩)⟩
class CVO (K : PySem.W.Frag) (O : Ord) (E : XK) (to : TO) (f : outParam (En → MM (Option Int))) : Prop where
  go : ∀ Hs, O.ok Hs → ∀ σ H Q, (∃ ρ, RelS K Hs H σ ρ ∧ O.r Hs H ∧ ∃ Q0 E0, f ρ Q0 E0 ∧ (∀ i H', Q0 i → O.r H H' → Q i H') ∧ (∀ e, E0 e → RzE O E e H)) → to σ H Q
instance : CVO K O E tNoPart (fun _ => ret none) := ⟨fun Hs okS σ H Q ⟨ρ, r, o, Q0, E0, hm, hq, he⟩ => hq none H hm (O.refl H)⟩
def asI : D → MM (Option Int)
  | .int i => ret (some i)
  | _ => stuck
instance {te : TE} {f : En → M} [a : CV K O E 0 te f] : CVO K O E (tPart te) (fun ρ => bnd (f ρ) asI) := ⟨fun Hs okS σ H Q ⟨ρ, r, o, Q0, E0, hm, hq, he⟩ => a.go Hs okS σ H _ ⟨ρ, r, o, _, E0, hm, fun d v H1 hd o1 rv _ => by
  cases d <;> first
    | exact hd.elim
    | (cases rv; exact ⟨_, rfl, hq _ H1 hd o1⟩), he⟩⟩
def cutD (xs : List D) (lo hi : Option Int) : List D := (xs.drop (HT.sIx xs.length 0 lo)).take (HT.sIx xs.length xs.length hi - HT.sIx xs.length 0 lo)
def rSlQ (K : PySem.W.Frag) : V → Option Int → Option Int → Hp → VK → Prop := fun x lo hi H Q => rSlL K x lo hi H Q ∨ rSlA K x lo hi H Q
theorem sl_Q {X : Cx} (K : PySem.W.Frag) (e : X.K = K) : SlR X (rSlQ K) := by subst e; exact SlR.or sl_list sl_tupA
def slM : D → Option Int → Option Int → M
  | .lst ds, lo, hi => ret (.lst (cutD ds lo hi))
  | .tup ds, lo, hi => ret (.tup (cutD ds lo hi))
  | _, _, _ => stuck
theorem cutD_rp {xs : List V} {ds : List D} {lo hi : Option Int} (r : RpA K H xs ds) : RpA K H (cutV xs lo hi) (cutD ds lo hi) := by
  unfold cutV cutD
  rw [r.len]
  exact (r.drop _).take _
theorem slQ_go {x : V} {d : D} {lo hi : Option Int} [l : Le n 1] (o : O.r Hs H) (r : Rp K H x d) (m : Rs K O Hs E H n (slM d lo hi) Q) : rSlQ K x lo hi H Q := by
  cases d <;> first
    | exact Rs.stuck m
    | (cases r with
       | lst h1 h2 => exact .inl ⟨_, _, rfl, SqL.of h1, ret_lst o m (cutD_rp h2)⟩)
    | (cases r with
       | tup h1 h2 =>
         refine .inr ⟨_, _, rfl, h1, fun hw => ?_, fun _ => ret_tup m (cutD_rp h2)⟩
         refine m.ret (.tup h1 ?_) (FrD.nl fun _ z => by cases z)
         have h3 := cutD_rp (lo := lo) (hi := hi) h2
         unfold cutV at h3
         rw [hw.1, hw.2, List.drop_zero, Nat.sub_zero, List.take_length] at h3
         exact h3)
instance {te : TE} {tl th : TO} {f : En → M} {fl fh : En → MM (Option Int)} [a : CV K O E 0 te f] [b : CVO K O E tl fl] [c : CVO K O E th fh] [l : Le n 1] : CV K O E n (tSl (rSlQ K) te tl th) (fun ρ => bnd (f ρ) fun x => bnd (fl ρ) fun lo => bnd (fh ρ) fun hi => slM x lo hi) := ⟨fun Hs okS σ H Q ⟨ρ, r, o, m⟩ =>
  a.go Hs okS σ H _ ⟨ρ, r, o, (m.bnd 0).imp fun v H1 o1 ⟨d, _, rv, _, m1⟩ => b.go Hs okS σ H1 _ ⟨ρ, r.mono (O.ext o1), O.trans o o1, by
    obtain ⟨Q0, E0, hm, hq, he⟩ := m1
    refine ⟨_, E0, hm, fun lo H2 hlo o2 => c.go Hs okS σ H2 _ ⟨ρ, (r.mono (O.ext o1)).mono (O.ext o2), O.trans (O.trans o o1) o2, _, E0, hlo, fun hi H3 hhi o3 => ?_, fun e z => (he e z).mono o2⟩, he⟩
    refine slQ_go (E := E) (Hs := Hs) (O := O) (n := n) (O.trans (O.trans (O.trans o o1) o2) o3) ((rv.mono (O.ext o2)).mono (O.ext o3)) ⟨Q0, E0, hhi, fun d2 v2 H4 q o4 r4 f4 => hq d2 v2 H4 q (O.trans (O.trans o2 o3) o4) r4 f4, fun e z => ((he e z).mono o2).mono o3⟩⟩⟩⟩
end
end Wk

set_option Elab.async false
set_option linter.all false
set_option maxRecDepth 100000
set_option maxHeartbeats 4000000
namespace Wk
open PySem PySem.Spec PyProof.Rows L2
def toL : D → Sl
  | .non => .fz .non
  | .bl b => .fz (.bl b)
  | .int i => .fz (.int i)
  | .str x => .fz (.str x)
  | .adr a => .fz (.adr a)
  | d => .lt d
def setE (ρ : En) : List (Nat × D) → En
  | [] => ρ
  | p :: ps => setE (ρ.set p.1 (toL p.2)) ps
def setV (σ : L2.St) : List (Nat × V) → L2.St
  | [] => σ
  | p :: ps => setV (σ.set p.1 (some p.2)) ps
inductive Upd (K : PySem.W.Frag) (H : Hp) : List (Nat × V) → List (Nat × D) → Prop
  | nil : Upd K H [] []
  | cons {i : Nat} {v : V} {d : D} {qs : List (Nat × V)} {ps : List (Nat × D)} : Rp K H v d → Upd K H qs ps → Upd K H ((i, v) :: qs) ((i, d) :: ps)
theorem toL_A {K : PySem.W.Frag} {Hs H : Hp} {v : V} {d : D} (h : Rp K H v d) : SlA K Hs H (some v) (toL d) := by cases d <;> exact h
theorem RelS.set1 {K : PySem.W.Frag} {Hs H : Hp} {σ : L2.St} {ρ : En} {i : Nat} {v : V} {s : Sl} (h : RelS K Hs H σ ρ) (hv : SlA K Hs H (some v) s) : RelS K Hs H (σ.set i (some v)) (ρ.set i s) := by
  refine ⟨by rw [List.length_set, List.length_set]; exact h.1, fun j t ht => ?_⟩
  by_cases hj : i = j
  · subst hj
    have hl : i < ρ.length := by
      have := (List.getElem?_eq_some_iff.mp ht).1
      rwa [List.length_set] at this
    rw [List.getElem?_set_self hl] at ht
    cases ht
    rw [List.getElem?_set_self (by rw [h.1]; exact hl)]
    exact hv
  · rw [List.getElem?_set_ne hj] at ht ⊢
    exact h.2 j t ht
theorem RelS.setM {K : PySem.W.Frag} {Hs H : Hp} : ∀ {qs : List (Nat × V)} {ps : List (Nat × D)} {σ : L2.St} {ρ : En}, RelS K Hs H σ ρ → Upd K H qs ps → RelS K Hs H (setV σ qs) (setE ρ ps)
  | _, _, _, _, h, .nil => h
  | _, _, σ, ρ, h, .cons (i := i) (v := v) (d := d) hv r => by
    show RelS K Hs H (setV (σ.set i (some v)) _) (setE (ρ.set i (toL d)) _)
    exact RelS.setM (h.set1 (toL_A hv)) r
def wipeE (ρ : En) : List Nat → En
  | [] => ρ
  | v :: vs => (wipeE ρ vs).set v .no
theorem RelS.wipe {K : PySem.W.Frag} {Hs H : Hp} {σ : L2.St} {ρ : En} (h : RelS K Hs H σ ρ) : ∀ vs : List Nat, RelS K Hs H (L2.wipe σ vs) (wipeE ρ vs)
  | [] => h
  | v :: vs => by
    have ih := RelS.wipe h vs
    show RelS K Hs H ((L2.wipe σ vs).set v none) ((wipeE ρ vs).set v .no)
    refine ⟨by rw [List.length_set, List.length_set]; exact ih.1, fun j t ht => ?_⟩
    by_cases hj : v = j
    · subst hj
      have hl : v < (wipeE ρ vs).length := by
        have := (List.getElem?_eq_some_iff.mp ht).1
        rwa [List.length_set] at this
      rw [List.getElem?_set_self hl] at ht
      cases ht
      generalize ((L2.wipe σ vs).set v none)[v]?.join = z
      cases z <;> exact True.intro
    · rw [List.getElem?_set_ne hj] at ht ⊢
      exact ih.2 j t ht
theorem wipe_set_in {σ : L2.St} : ∀ {vs : List Nat} {i : Nat} {x : Option V}, i ∈ vs → L2.wipe (σ.set i x) vs = L2.wipe σ vs
  | [], _, _, h => by cases h
  | v :: vs, i, x, h => by
    show (L2.wipe (σ.set i x) vs).set v none = (L2.wipe σ vs).set v none
    by_cases hv : i = v
    · subst hv
      by_cases hm : i ∈ vs
      · rw [wipe_set_in hm]
      · have : ∀ {ws : List Nat}, i ∉ ws → L2.wipe (σ.set i x) ws = (L2.wipe σ ws).set i x := by
          intro ws
          induction ws with
          | nil => intro _; rfl
          | cons w ws ih =>
            intro hw
            simp only [List.mem_cons, not_or] at hw
            show (L2.wipe (σ.set i x) ws).set w none = ((L2.wipe σ ws).set w none).set i x
            rw [ih hw.2, List.set_comm _ _ hw.1]
        rw [this hm, List.set_set]
    · rcases List.mem_cons.mp h with h | h
      · exact absurd h hv
      · rw [wipe_set_in h]
theorem wipe_wipe {σ : L2.St} {vs : List Nat} : ∀ ws : List Nat, (∀ w ∈ ws, w ∈ vs) → L2.wipe (L2.wipe σ ws) vs = L2.wipe σ vs
  | [], _ => rfl
  | w :: ws, h => by
    show L2.wipe ((L2.wipe σ ws).set w none) vs = L2.wipe σ vs
    rw [wipe_set_in (h w List.mem_cons_self)]
    exact wipe_wipe ws fun z hz => h z (List.mem_cons_of_mem _ hz)
def subV (vs : List Nat) (ps : List (Nat × D)) : Bool := ps.all fun p => vs.contains p.1
theorem wipe_setV {K : PySem.W.Frag} {H : Hp} {vs : List Nat} : ∀ {qs : List (Nat × V)} {ps : List (Nat × D)} {σ : L2.St}, Upd K H qs ps → subV vs ps = true → L2.wipe (setV σ qs) vs = L2.wipe σ vs
  | _, _, _, .nil, _ => rfl
  | _, _, σ, .cons (i := i) (v := v) hv r, h => by
    unfold subV at h
    rw [List.all_cons, Bool.and_eq_true] at h
    show L2.wipe (setV (σ.set i (some v)) _) vs = _
    rw [wipe_setV r h.2]
    exact wipe_set_in (by simpa using h.1)
theorem Upd.app {K : PySem.W.Frag} {H : Hp} : ∀ {qs qs' : List (Nat × V)} {ps ps' : List (Nat × D)}, Upd K H qs ps → Upd K H qs' ps' → Upd K H (qs ++ qs') (ps ++ ps')
  | _, _, _, _, .nil, h => h
  | _, _, _, _, .cons h r, q => .cons h (Upd.app r q)
theorem setV_app : ∀ (qs qs' : List (Nat × V)) (σ : L2.St), setV σ (qs ++ qs') = setV (setV σ qs) qs'
  | [], _, _ => rfl
  | q :: qs, qs', σ => setV_app qs qs' _
class CVG (K : PySem.W.Frag) (g : TG) (u : outParam (D → Option (List (Nat × D)))) : Prop where
  go : ∀ v d Hx H σ Q ps, L2.Same Hx H → Rp K Hx v d → u d = some ps → (∀ qs, Upd K Hx qs ps → Q (setV σ qs) H) → g v σ H Q
class CVGs (K : PySem.W.Frag) (g : TGs) (u : outParam (List D → Option (List (Nat × D)))) : Prop where
  go : ∀ vs ds Hx H σ Q ps, L2.Same Hx H → RpA K Hx vs ds → u ds = some ps → (∀ qs, Upd K Hx qs ps → Q (setV σ qs) H) → g vs σ H Q
section
variable {K : PySem.W.Frag} {g : TG} {gs : TGs} {u : D → Option (List (Nat × D))} {us : List D → Option (List (Nat × D))}
instance {i : Nat} : CVG K (gName i) (fun d => some [(i, d)]) := ⟨fun v d Hx H σ Q ps sm r e k => by
  cases e
  exact k [(i, v)] (.cons r .nil)⟩
def uNil : List D → Option (List (Nat × D))
  | [] => some []
  | _ => none
def uCons (u : D → Option (List (Nat × D))) (us : List D → Option (List (Nat × D))) : List D → Option (List (Nat × D))
  | d :: ds => (u d).bind fun a => (us ds).map fun b => a ++ b
  | _ => none
instance : CVGs K gNil uNil := ⟨fun vs ds Hx H σ Q ps sm r e k => by
  cases r with
  | nil => cases e; exact ⟨rfl, k [] .nil⟩
  | cons _ _ => cases e⟩
instance [a : CVG K g u] [b : CVGs K gs us] : CVGs K (gCons g gs) (uCons u us) := ⟨fun vs ds Hx H σ Q ps sm r e k => by
  cases r with
  | nil => cases e
  | @cons x xs d ds h r =>
    replace e : ((u d).bind fun a => (us ds).map fun b => a ++ b) = some ps := e
    cases h1 : u d with
    | none => rw [h1] at e; cases e
    | some p1 =>
      rw [h1] at e
      cases h2 : us ds with
      | none => rw [h2] at e; cases e
      | some p2 =>
        rw [h2] at e
        cases e
        refine ⟨x, xs, rfl, a.go x d Hx H σ _ p1 sm h h1 fun qs u1 => b.go xs ds Hx H _ _ p2 sm r h2 fun qs2 u2 => ?_⟩
        rw [← setV_app]
        exact k _ (u1.app u2)⟩
def uTup (n : Nat) (us : List D → Option (List (Nat × D))) : D → Option (List (Nat × D))
  | .tup ds => if ds.length = n then us ds else none
  | _ => none
def uSqs (n : Nat) (us : List D → Option (List (Nat × D))) : D → Option (List (Nat × D))
  | .tup ds => if ds.length = n then us ds else none
  | .lst ds => if ds.length = n then us ds else none
  | _ => none
theorem if_some {p : Prop} [Decidable p] {α : Type} {a : Option α} {b : α} (h : (if p then a else none) = some b) : p ∧ a = some b := by
  by_cases hp : p
  · rw [if_pos hp] at h
    exact ⟨hp, h⟩
  · rw [if_neg hp] at h
    cases h
instance {n : Nat} [b : CVGs K gs us] : CVG K (gTup K n gs) (uTup n us) := ⟨fun v d Hx H σ Q ps sm r e k => by
  cases d <;> first
    | cases e
    | (obtain ⟨e1, e2⟩ := if_some e
       cases r with
       | tup h1 h2 => exact ⟨_, _, rfl, same_t sm h1, by rw [h2.len]; exact e1, b.go _ _ Hx H σ Q ps sm h2 e2 k⟩)⟩
instance {n : Nat} [b : CVGs K gs us] : CVG K (gSqs K n gs) (uSqs n us) := ⟨fun v d Hx H σ Q ps sm r e k => by
  cases d <;> first
    | cases e
    | (obtain ⟨e1, e2⟩ := if_some e
       cases r with
       | tup h1 h2 => exact ⟨_, _, rfl, .inr (same_t sm h1), by rw [h2.len]; exact e1, b.go _ _ Hx H σ Q ps sm h2 e2 k⟩)
    | (obtain ⟨e1, e2⟩ := if_some e
       cases r with
       | lst h1 h2 => exact ⟨_, _, rfl, sqL (sm _ _ h1), by rw [h2.len]; exact e1, b.go _ _ Hx H σ Q ps sm h2 e2 k⟩)⟩
end
def bindT {α : Type} (u : D → Option (List (Nat × D))) (d : D) (k : List (Nat × D) → MM α) : MM α := fun Q E => ∃ ps, u d = some ps ∧ k ps Q E
def ItOk (K : PySem.W.Frag) (J : It) (ds : List D) (H1 : Hp) : Prop := ∀ H', LamX.ExtN H1 H' → (∀ i, i < ds.length → J.go i H') ∧ J.stop ds.length H' ∧ ∀ (i : Nat) x H'' d, ds[i]? = some d → J.yld i H' x H'' → L2.Same H' H'' ∧ ∀ Hx, LamX.ExtN H1 Hx → (∀ b o, H' b = none → H'' b = some o → Hx b = some o) → Rp K Hx x d
theorem ItOk.walk {K : PySem.W.Frag} {J : It} {ds : List D} {H1 : Hp} (h : ItOk K J ds H1) : Walk J ds.length (fun H' => LamX.ExtN H1 H') (fun i H' x H'' => L2.Same H' H'' ∧ ∃ d, ds[i]? = some d ∧ ∀ Hx, LamX.ExtN H1 Hx → (∀ b o, H' b = none → H'' b = some o → Hx b = some o) → Rp K Hx x d) :=
  ⟨fun i H' hi e => (h H' e).1 i hi, fun H' e => (h H' e).2.1, fun i H' x H'' hi e y => by
    have hd : ds[i]? = some (ds[i]'hi) := List.getElem?_eq_getElem hi
    obtain ⟨h1, h2⟩ := (h H' e).2.2 i x H'' _ hd y
    exact ⟨h1, _, hd, h2⟩⟩
class CVI (K : PySem.W.Frag) (O : Ord) (E : XK) (wi : TI) (f : outParam (En → MM (List D))) : Prop where
  go : ∀ Hs, O.ok Hs → ∀ σ H R, (∃ ρ, RelS K Hs H σ ρ ∧ O.r Hs H ∧ ∃ Q0 E0, f ρ Q0 E0 ∧ (∀ ds J H1, Q0 ds → O.r H H1 → ItOk K J ds H1 → R J H1) ∧ (∀ e, E0 e → RzE O E e H)) → wi σ H R
class CVR (K : PySem.W.Frag) (O : Ord) (E : XK) (wi : TI) (f : outParam (En → MM (List D))) : Prop where
  go : ∀ Hs, O.ok Hs → ∀ σ H R, (∃ ρ, RelS K Hs H σ ρ ∧ O.r Hs H ∧ ∃ Q0 E0, f ρ Q0 E0 ∧ (∀ ds J H1, Q0 ds → O.r H H1 → (∀ H2, ItOk K J ds H2) → R J H1) ∧ (∀ e, E0 e → RzE O E e H)) → wi σ H R
section
variable {K : PySem.W.Frag} {O : Ord} {E : XK} {n N : Nat} {te : TE} {f : En → M} {fA : En → MM (List D)} {tA : TA}
def rowM : D → MM (List D)
  | .lst ds => ret ds
  | .tup ds => ret ds
  | _ => stuck
theorem itok_seq {H : Hp} {a : Addr} {xs : List V} {ds : List D} {J : It} {G : Hp → Prop} (w : Walk J xs.length G (YAt xs)) (hG : ∀ H', LamX.ExtN H H' → G H') (r : RpA K H xs ds) : ItOk K J ds H := fun H' e => by
  refine ⟨fun i hi => w.goes i H' (by rw [r.len]; exact hi) (hG H' e), by rw [← r.len]; exact w.stops H' (hG H' e), fun i x H'' d hd y => ?_⟩
  have hi : i < xs.length := by rw [r.len]; exact (List.getElem?_eq_some_iff.mp hd).1
  obtain ⟨rfl, hx⟩ := w.yields i H' x H'' hi (hG H' e) y
  obtain ⟨d', h1, h2⟩ := r.get hx
  rw [hd] at h1
  cases h1
  exact ⟨L2.Same.refl _, fun Hx ex _ => h2.mono ex⟩
theorem rowM_go {d : D} {v : V} {H : Hp} {Q0 : List D → Prop} {E0 : Er → Prop} (r : Rp K H v d) (h : rowM d Q0 E0) : ∃ a xs ds, v = .ref a ∧ Sq K H a xs ∧ RpA K H xs ds ∧ Q0 ds := by
  cases d <;> first
    | exact h.elim
    | (cases r with
       | lst h1 h2 => exact ⟨_, _, _, rfl, sqL h1, h2, h⟩)
    | (cases r with
       | tup h1 h2 => exact ⟨_, _, _, rfl, .inr h1, h2, h⟩)
instance [a : CV K O E 0 te f] : CVI K O E (iSeq K te) (fun ρ => bnd (f ρ) rowM) := ⟨fun Hs okS σ H R ⟨ρ, r, o, Q0, E0, hm, hq, he⟩ => a.go Hs okS σ H _ ⟨ρ, r, o, _, E0, hm, fun d v H1 hd o1 rv _ => by
  obtain ⟨a, xs, ds, rfl, hS, rA, q⟩ := rowM_go rv hd
  rcases hS with hS | hS
  · exact ⟨a, rfl, .inl ⟨⟨xs, hS⟩, hq ds _ H1 q o1 (itok_seq (a := a) walk_list (fun H' e => extN_l e hS) rA)⟩⟩
  · exact ⟨a, rfl, .inr ⟨⟨xs, hS⟩, hq ds _ H1 q o1 (itok_seq (a := a) walk_tup (fun H' e => extN_t e hS) rA)⟩⟩, he⟩⟩
def rngD (lo : Int) (n : Nat) : List D := (List.range n).map fun (i : Nat) => D.int (lo + (i : Int))
theorem itok_rng {lo : Int} {m : Nat} {H : Hp} : ItOk K (Itr lo m) (rngD lo m) H := fun H' e => by
  have hl : (rngD lo m).length = m := by unfold rngD; rw [List.length_map, List.length_range]
  refine ⟨fun i hi => by rw [hl] at hi; exact hi, by rw [hl]; exact Nat.le_refl _, fun i x H'' d hd y => ?_⟩
  obtain ⟨rfl, rfl⟩ := y
  have hi : i < m := by
    have := (List.getElem?_eq_some_iff.mp hd).1
    rwa [hl] at this
  unfold rngD at hd
  rw [List.getElem?_map, List.getElem?_range hi] at hd
  cases hd
  exact ⟨L2.Same.refl _, fun _ _ _ => .int _⟩
def rng1M : List D → MM (List D)
  | [.int j] => need (-(2 ^ 62) ≤ j ∧ j < 2 ^ 62) (ret (rngD 0 j.toNat))
  | _ => stuck
theorem rng1M_go {ds : List D} {xs : List V} {H : Hp} {Q0 : List D → Prop} {E0 : Er → Prop} (r : RpA K H xs ds) (h : rng1M ds Q0 E0) : ∃ j : Int, xs = [.int j] ∧ -(2 ^ 62) ≤ j ∧ j < 2 ^ 62 ∧ Q0 (rngD 0 j.toNat) := by
  cases r with
  | nil => exact h.elim
  | @cons x xs d ds h1 r =>
    cases r with
    | cons _ _ => cases d <;> exact h.elim
    | nil => cases d <;> first | exact h.elim | (cases h1; exact ⟨_, rfl, h.1.1, h.1.2, h.2⟩)
instance cvr_rng1 [a : CVA K O E 0 tA N fA] : CVR K O E (iRng1 tA) (fun ρ => bnd (fA ρ) rng1M) := ⟨fun Hs okS σ H R ⟨ρ, r, o, Q0, E0, hm, hq, he⟩ => a.go Hs okS σ H _ ⟨ρ, r, o, _, E0, hm, fun ds vs H1 hd _ o1 rA _ => by
  obtain ⟨j, rfl, h1, h2, h3⟩ := rng1M_go rA hd
  exact ⟨j, rfl, h1, h2, hq _ _ H1 h3 o1 fun _ => itok_rng⟩, he⟩⟩
instance (priority := low) {wi : TI} [a : CVR K O E wi fA] : CVI K O E wi fA := ⟨fun Hs okS σ H R ⟨ρ, r, o, Q0, E0, hm, hq, he⟩ => a.go Hs okS σ H R ⟨ρ, r, o, Q0, E0, hm, fun ds J H1 hd o1 ok => hq ds J H1 hd o1 (ok H1), he⟩⟩
def zip2 (a b : List D) : List D := List.zipWith (fun x y => D.tup [x, y]) a b
def zipM (strict : Bool) : List D → MM (List D)
  | [x, y] => bnd (rowM x) fun a => bnd (rowM y) fun b => need (a.length = b.length) (ret (zip2 a b))
  | _ => stuck
theorem itok_pair {H : Hp} {xs ys : List V} {ds es : List D} {J : It} {G : Hp → Prop} (w : Walk J xs.length G (YPair (fun i => xs[i]?) (fun i => ys[i]?))) (hG : ∀ H', LamX.ExtN H H' → G H') (hl : ds.length = es.length) (r : RpA K H xs ds) (r2 : RpA K H ys es) : ItOk K J (zip2 ds es) H := fun H' e => by
  have hz : (zip2 ds es).length = xs.length := by unfold zip2; rw [List.length_zipWith, r.len, ← hl, Nat.min_self]
  refine ⟨fun i hi => w.goes i H' (by rw [← hz]; exact hi) (hG H' e), by rw [hz]; exact w.stops H' (hG H' e), fun i x H'' d hd y => ?_⟩
  have hi : i < xs.length := by rw [← hz]; exact (List.getElem?_eq_some_iff.mp hd).1
  obtain ⟨T, x1, y1, rfl, hT, rfl, hx, hy⟩ := w.yields i H' x H'' hi (hG H' e) y
  obtain ⟨d1, h1, h2⟩ := r.get hx
  obtain ⟨d2, h3, h4⟩ := r2.get hy
  unfold zip2 at hd
  rw [List.getElem?_zipWith, h1, h3] at hd
  cases hd
  exact ⟨same_new hT, fun Hx ex hn => .tup (.inl (.inl (hn T _ hT upd_same))) (.cons (h2.mono ex) (.cons (h4.mono ex) .nil))⟩
theorem zip_args {ds : List D} {vs : List V} {H : Hp} {b : Bool} {Q0 : List D → Prop} {E0 : Er → Prop} (rA : RpA K H vs ds) (hd : zipM b ds Q0 E0) : ∃ a1 xs1 ds1 a2 xs2 ds2, vs = [.ref a1, .ref a2] ∧ Sq K H a1 xs1 ∧ Sq K H a2 xs2 ∧ RpA K H xs1 ds1 ∧ RpA K H xs2 ds2 ∧ ds1.length = ds2.length ∧ Q0 (zip2 ds1 ds2) := by
  cases rA with
  | nil => exact hd.elim
  | @cons x xs d ds h r =>
    cases r with
    | nil => exact hd.elim
    | @cons x' xs d' ds h' r =>
      cases r with
      | cons _ _ => exact hd.elim
      | nil =>
        obtain ⟨a1, xs1, ds1, rfl, s1, r1, q1⟩ := rowM_go h hd
        obtain ⟨a2, xs2, ds2, rfl, s2, r2, hl, q2⟩ := rowM_go h' q1
        exact ⟨a1, xs1, ds1, a2, xs2, ds2, rfl, s1, s2, r1, r2, hl, q2⟩
theorem sqB_ext {H H' : Hp} {t : Bool} {a : Addr} {xs : List V} (h : SqB K t H a xs) (e : LamX.ExtN H H') : SqB K t H' a xs := by
  cases t
  · exact extN_l e h
  · exact extN_t e h
instance [a : CVA K O E 0 tA N fA] : CVI K O E (iZipQ K tA) (fun ρ => bnd (fA ρ) (zipM false)) := ⟨fun Hs okS σ H R ⟨ρ, r, o, Q0, E0, hm, hq, he⟩ => a.go Hs okS σ H _ ⟨ρ, r, o, _, E0, hm, fun ds vs H1 hd _ o1 rA _ => by
  obtain ⟨a1, xs1, ds1, a2, xs2, ds2, rfl, s1, s2, r1, r2, hl, q2⟩ := zip_args rA hd
  obtain ⟨ta, ha⟩ := SqB.of s1
  obtain ⟨tb, hb⟩ := SqB.of s2
  have hl2 : xs1.length = xs2.length := by rw [r1.len, r2.len, hl]
  refine ⟨a1, a2, xs1, xs2, ta, tb, rfl, ha, hb, hq _ _ H1 q2 o1 (itok_pair (G := fun H' => SqB K ta H' a1 xs1 ∧ SqB K tb H' a2 xs2) ⟨fun i H' hi q => ⟨q.1, q.2, hi, by omega⟩, fun H' q => ⟨q.1, q.2, Nat.le_refl _, by omega, .inl rfl⟩, fun i H' x H'' hi q y => ?_⟩ (fun H' e => ⟨sqB_ext ha e, sqB_ext hb e⟩) hl r1 r2)⟩
  obtain ⟨T, x, y, h1, h2, h3, h4, h5⟩ := y
  exact ⟨T, x, y, h1, h2, h3, h4, h5⟩, he⟩⟩
end
end Wk

set_option Elab.async false
set_option linter.all false
set_option maxRecDepth 100000
set_option maxHeartbeats 4000000
namespace Wk
open PySem PySem.Spec PyProof.Rows L2
theorem pe_lcV {X : Cx} {elt tg iter : Expr} {ifs : List Expr} {scope : Scope} {own : List (Str × Nat)} {pos : Pos} {wi : TI} {g : TG} {tt : TT} {te : TE} (vs : List Nat) (hc : X.calm = true) (hN : X.N.Nodup) (hi : PI X tg iter wi) (ok : BlkOk X.N X.env.scope scope own)
    (hg : ∀ (s : Shared) (H : Hp) (C : Addr) (cl : List (Str × Addr)) (fp : List Addr), PG (X.blk s H scope (compEnvC scope cl C X.env) fp) tg g) (ht : ∀ (s : Shared) (H : Hp) (C : Addr) (cl : List (Str × Addr)) (fp : List Addr), PTs (X.blk s H scope (compEnvC scope cl C X.env) fp) ifs tt)
    (he : ∀ (s : Shared) (H : Hp) (C : Addr) (cl : List (Str × Addr)) (fp : List Addr), PE (X.blk s H scope (compEnvC scope cl C X.env) fp) elt te) (hv : own.map (·.2) = vs := by rfl) (hs : ∀ x, foldedSetIterable iter X.env x = pure x := by intro _; rfl) :
    PE X (.ListComp elt [⟨tg, iter, ifs, 0⟩] scope pos) (tLc wi g tt te vs) := by
  subst hv
  exact pe_lc hc hN hi ok hg ht he hs
def mapV (f : D → M) : List D → MM (List D)
  | [] => ret []
  | x :: xs => bnd (f x) fun y => bnd (mapV f xs) fun ys => ret (y :: ys)
def filV (t : D → MM Bool) (f : D → M) : List D → MM (List D)
  | [] => ret []
  | x :: xs => bnd (t x) fun b => if b = true then bnd (f x) fun y => bnd (filV t f xs) fun ys => ret (y :: ys) else filV t f xs
def nEx {α : Type} (m : MM α) : MM α := fun Q _ => m Q fun _ => False
section
variable {K : PySem.W.Frag} {O : Ord} {E : XK} {n : Nat} {wi wi1 : TI} {g g1 : TG} {te : TE} {tt : TT} {vs vs1 : List Nat} {fi fi1 : En → MM (List D)} {u u1 : D → Option (List (Nat × D))} {fe : En → M} {ft : En → MM Bool}
def Grow (K : PySem.W.Frag) (O : Ord) (Hs H1 : Hp) (n : Nat) (p : Addr) (es : List D) (H' : Hp) : Prop := ∃ B ys, H' = upd B p (.lst ys) ∧ B p = none ∧ O.r H1 B ∧ RpA K B ys es ∧ FrA Hs B n ys es
theorem Grow.start {Hs H1 : Hp} {p : Addr} (h : H1 p = none) : Grow K O Hs H1 n p [] (upd H1 p (.lst [])) := ⟨H1, [], rfl, h, O.refl H1, .nil, FrA.nil⟩
theorem Grow.ext {Hs H1 H' : Hp} {p : Addr} {es : List D} (w : Grow K O Hs H1 n p es H') : LamX.ExtN H1 H' := by
  obtain ⟨B, ys, rfl, hB, o, _, _⟩ := w
  exact LamX.ExtN.trans (O.ext o) (LamX.ExtN.of (same_new hB))
theorem Grow.yields {Hs H1 H' H'' : Hp} {p : Addr} {es : List D} (w : Grow K O Hs H1 n p es H') (s : L2.Same H' H'') : ∃ B' ys, H'' = upd B' p (.lst ys) ∧ B' p = none ∧ O.r H1 B' ∧ RpA K B' ys es ∧ FrA Hs B' n ys es ∧ L2.Same B' H'' ∧ ∀ b o, H' b = none → H'' b = some o → B' b = some o := by
  obtain ⟨B, ys, rfl, hB, o, r, f⟩ := w
  have h1 : H'' p = some (.lst ys) := s _ _ upd_same
  have h2 : L2.Same B (hid H'' p) := fun b x e => by
    have hb : b ≠ p := ne_of_none e hB
    rw [hid_ne hb]
    exact s b x (by rw [upd_ne hb]; exact e)
  refine ⟨hid H'' p, ys, ?_, hid_same, O.trans o (O.same h2), r.mono (LamX.ExtN.of h2), f.mono (LamX.ExtN.of h2), hid_le, fun b x hb hx => ?_⟩
  · funext b
    by_cases e : b = p
    · rw [e, upd_same, h1]
    · rw [upd_ne e, hid_ne e]
  · have hbp : b ≠ p := fun z => by
      rw [z, upd_same] at hb
      cases hb
    rw [hid_ne hbp]
    exact hx
theorem FrA.snoc {Hs H : Hp} : ∀ {vs : List V} {ds : List D} {v : V} {d : D}, FrA Hs H n vs ds → vs.length = ds.length → FrD Hs H n v d → FrA Hs H n (vs ++ [v]) (ds ++ [d]) := fun {vs ds v d} h hl hv i x e p q => by
  by_cases hi : i < vs.length
  · rw [List.getElem?_append_left hi] at p
    rw [List.getElem?_append_left (by omega)] at q
    exact h i x e p q
  · have hi2 : i = vs.length := by
      have := (List.getElem?_eq_some_iff.mp p).1
      rw [List.length_append, List.length_singleton] at this
      omega
    subst hi2
    rw [List.getElem?_concat_length] at p
    rw [hl, List.getElem?_concat_length] at q
    cases p
    cases q
    exact hv
theorem Grow.elt {Hs H1 H' : Hp} {p : Addr} {es : List D} {σ2 : L2.St} {ρ2 : En} {B : Hp} {ys : List V} [a : CV K O E0 n te fe] (okS : O.ok Hs) (eH : H' = upd B p (.lst ys)) (hB : B p = none) (o : O.r H1 B) (oS : O.r Hs H1) (r : RpA K B ys es) (f : FrA Hs B n ys es) (hz : es.length < 16777216) (rel : RelS K Hs B σ2 ρ2)
    {Q0 : D → Prop} (hm : fe ρ2 Q0 fun _ => False) {N : Hp → Prop} (hN : ∀ d H'', Q0 d → Grow K O Hs H1 n p (es ++ [d]) H'' → N H'') : tHid te σ2 H' fun y H4 => ∃ acc, H4 p = some (.lst acc) ∧ acc.length < sizeLine ∧ N (upd H4 p (.lst (acc ++ [y]))) := by
  subst eH
  refine ⟨p, ys, upd_same, ?_⟩
  rw [hid_upd hB]
  refine a.go Hs okS σ2 B _ ⟨ρ2, rel, O.trans oS o, Q0, fun _ => False, hm, fun d v B' hd o' rv fv hn => ⟨ys, upd_same, ?_, hN d _ hd ⟨B', ys ++ [v], by rw [upd_upd], hn, O.trans o o', (r.mono (O.ext o')).snoc rv, FrA.snoc (f.mono (O.ext o')) r.len fv⟩⟩, fun _ z => z.elim⟩
  rw [r.len]
  exact Nat.lt_of_lt_of_le hz (by decide)
theorem Grow.done {Hs H1 H' : Hp} {p : Addr} {es : List D} (w : Grow K O Hs H1 n p es H') (hp : H1 p = none) (oS : O.r Hs H1) : O.r H1 H' ∧ Rp K H' (.ref p) (.lst es) ∧ FrD Hs H' (n + 1) (.ref p) (.lst es) := by
  obtain ⟨B, ys, rfl, hB, o, r, f⟩ := w
  have e := same_new (o := HO.lst ys) hB
  refine ⟨O.trans o (O.same e), .lst upd_same (r.mono (LamX.ExtN.of e)), fun ds h => ?_⟩
  cases h
  exact ⟨p, ys, rfl, (NL.of hp).back (O.ext oS), upd_same, f.mono (LamX.ExtN.of e)⟩
theorem lc_word {Hs H1 : Hp} {σ : L2.St} {Q : VK} {J : It} {xs : List D} (ok : ItOk K J xs H1) (oS : O.r Hs H1) (S : List D → List D → Prop) (h0 : S xs [])
    (hs : ∀ x rest es H' H'' v p, S (x :: rest) es → es.length + rest.length < xs.length → Grow K O Hs H1 n p es H' → L2.Same H' H'' → (∀ Hx, LamX.ExtN H1 Hx → (∀ b o, H' b = none → H'' b = some o → Hx b = some o) → Rp K Hx v x) →
      g v (wipe σ vs) H'' fun σ2 H2 => wipe σ2 vs = wipe σ vs ∧ tt σ2 H2 fun b H3 => if b = true then te σ2 H3 fun y H4 => ∃ acc, H4 p = some (.lst acc) ∧ acc.length < sizeLine ∧ (∃ es', S rest es' ∧ es'.length + rest.length ≤ xs.length ∧ Grow K O Hs H1 n p es' (upd H4 p (.lst (acc ++ [y])))) else ∃ es', S rest es' ∧ es'.length + rest.length ≤ xs.length ∧ Grow K O Hs H1 n p es' H3)
    (hd : ∀ es p H', S [] es → H1 p = none → Grow K O Hs H1 n p es H' → Q (.ref p) H') : LC J g tt te vs σ Q H1 := by
  intro p hp
  refine lc_it (Qd := fun H' => Q (.ref p) H') ok.walk (fun i H' => ∃ es, S (xs.drop i) es ∧ es.length + (xs.drop i).length ≤ xs.length ∧ Grow K O Hs H1 n p es H') ⟨[], h0, by simp, Grow.start hp⟩ (fun i H' _ ⟨es, _, _, w⟩ => w.ext) (fun i x H' H'' hi ⟨es, hS, hl, w⟩ ⟨sm, d, hd', rv⟩ => ?_) (fun H' ⟨es, hS, _, w⟩ => ?_)
  · have e : xs.drop i = d :: xs.drop (i + 1) := by
      rw [List.drop_eq_getElem_cons hi]
      have := List.getElem?_eq_getElem hi
      rw [hd'] at this
      rw [Option.some.inj this]
    rw [e] at hS hl
    exact hs d (xs.drop (i + 1)) es H' H'' x p hS (by rw [List.length_cons] at hl; omega) w sm rv
  · rw [List.drop_length] at hS
    exact hd es p H' hS hp w
def elV (vs : List Nat) (u : D → Option (List (Nat × D))) (fe : En → M) (ρ : En) (x : D) : M := nEx (bindT u x fun ps => need (subV vs ps = true) (fe (setE (wipeE ρ vs) ps)))
def elT (vs : List Nat) (u : D → Option (List (Nat × D))) (ft : En → MM Bool) (ρ : En) (x : D) : MM Bool := nEx (bindT u x fun ps => need (subV vs ps = true) (ft (setE (wipeE ρ vs) ps)))
def lcM (vs : List Nat) (fi : En → MM (List D)) (u : D → Option (List (Nat × D))) (fe : En → M) : En → M := fun ρ => bnd (fi ρ) fun xs => need (xs.length ≤ 100000) (bnd (mapV (elV vs u fe ρ) xs) fun ys => ret (.lst ys))
theorem lc_go {n' : Nat} [a : CVI K O E wi fi] [c : CVG K g u] [b : CV K O E0 n te fe] (hn : n' ≤ n + 1) {Hs : Hp} (okS : O.ok Hs) {σ : L2.St} {H : Hp} {Q : VK} (h : tV K O Hs E n' (lcM vs fi u fe) σ H Q) : tLc wi g tYes (tHid te) vs σ H Q := by
  obtain ⟨ρ, r, o, Q0, E0', hm, hq, he⟩ := h
  refine a.go Hs okS σ H _ ⟨ρ, r, o, _, E0', hm, fun xs J H1 ⟨hz, hx⟩ o1 ok => ?_, he⟩
  refine lc_word (O := O) (Hs := Hs) (n := n) ok (O.trans o o1) (fun rest es => mapV (elV vs u fe ρ) rest (fun ys => Q0 (.lst (es ++ ys))) E0') hx (fun x rest es H' H'' v p hS hl w sm rv => ?_) (fun es p H' hS hp w => ?_)
  · obtain ⟨ps, h1, h2, h3⟩ := hS
    obtain ⟨B, ys, eH, hB, o2, rA, fA, s2, hnew⟩ := w.yields sm
    refine c.go v x B H'' _ _ ps s2 (rv B (O.ext o2) hnew) h1 fun qs up => ?_
    refine ⟨?_, g_yes (g_iteT ?_)⟩
    · rw [wipe_setV up h2]
      exact wipe_wipe vs fun _ z => z
    · refine Grow.elt (a := b) (N := fun H5 => ∃ es', mapV (elV vs u fe ρ) rest (fun ys => Q0 (.lst (es' ++ ys))) E0' ∧ es'.length + rest.length ≤ xs.length ∧ Grow K O Hs H1 n p es' H5) okS eH hB o2 (O.trans o o1) rA fA (by omega) (((r.mono (O.ext (O.trans o1 o2))).wipe vs).setM up) h3 fun d H4 hd w4 => ⟨es ++ [d], ?_, by rw [List.length_append, List.length_singleton]; omega, w4⟩
      have e : (fun ys => Q0 (.lst (es ++ d :: ys))) = fun ys => Q0 (.lst (es ++ [d] ++ ys)) := by
        funext ys
        rw [List.append_assoc]
        rfl
      rw [← e]
      exact hd
  · obtain ⟨h1, h2, h3⟩ := w.done hp (O.trans o o1)
    have hS' : Q0 (.lst (es ++ [])) := hS
    rw [List.append_nil] at hS'
    exact hq _ _ H' hS' (O.trans o1 h1) h2 (h3.less hn)
instance [a : CVI K O E wi fi] [c : CVG K g u] [b : CV K O E0 0 te fe] : CV K O E 0 (tLc wi g tYes (tHid te) vs) (lcM vs fi u fe) := ⟨fun Hs okS σ H Q h => lc_go (n := 0) (Nat.zero_le _) okS h⟩
def lcF (vs : List Nat) (fi : En → MM (List D)) (u : D → Option (List (Nat × D))) (ft : En → MM Bool) (fe : En → M) : En → M := fun ρ => bnd (fi ρ) fun xs => need (xs.length ≤ 100000)
  (bnd (filV (elT vs u ft ρ) (elV vs u fe ρ) xs) fun ys => ret (.lst ys))
theorem lcf_go {n' : Nat} [a : CVI K O E wi fi] [c : CVG K g u] [t : CVT K O E0 tt ft] [b : CV K O E0 n te fe] (hn : n' ≤ n + 1) {Hs : Hp} (okS : O.ok Hs) {σ : L2.St} {H : Hp} {Q : VK} (h : tV K O Hs E n' (lcF vs fi u ft fe) σ H Q) : tLc wi g (tHidT tt) (tHid te) vs σ H Q := by
  obtain ⟨ρ, r, o, Q0, E0', hm, hq, he⟩ := h
  refine a.go Hs okS σ H _ ⟨ρ, r, o, _, E0', hm, fun xs J H1 ⟨hz, hx⟩ o1 ok => ?_, he⟩
  refine lc_word (O := O) (Hs := Hs) (n := n) ok (O.trans o o1) (fun rest es => filV (elT vs u ft ρ) (elV vs u fe ρ) rest (fun ys => Q0 (.lst (es ++ ys))) E0') hx (fun x rest es H' H'' v p hS hl w sm rv => ?_) (fun es p H' hS hp w => ?_)
  · obtain ⟨ps, h1, h2, h3⟩ := hS
    obtain ⟨B, ys, eH, hB, o2, rA, fA, s2, hnew⟩ := w.yields sm
    refine c.go v x B H'' _ _ ps s2 (rv B (O.ext o2) hnew) h1 fun qs up => ?_
    have rel := ((r.mono (O.ext (O.trans o1 o2))).wipe vs).setM up
    refine ⟨?_, ?_⟩
    · rw [wipe_setV up h2]
      exact wipe_wipe vs fun _ z => z
    · subst eH
      refine ⟨p, ys, upd_same, ?_⟩
      rw [hid_upd hB]
      refine t.go Hs okS _ B _ ⟨_, rel, O.trans (O.trans o o1) o2, _, fun _ => False, h3, fun k B' hk o3 hnB => ?_, fun _ z => z.elim⟩
      cases k with
      | false =>
        rw [if_neg Bool.false_ne_true] at hk ⊢
        exact ⟨es, hk, by omega, B', ys, rfl, hnB, O.trans o2 o3, rA.mono (O.ext o3), fA.mono (O.ext o3)⟩
      | true =>
        rw [if_pos rfl] at hk ⊢
        obtain ⟨ps', h1', _, h4⟩ := hk
        rw [h1] at h1'
        cases h1'
        refine Grow.elt (a := b) (N := fun H5 => ∃ es', filV (elT vs u ft ρ) (elV vs u fe ρ) rest (fun ys => Q0 (.lst (es' ++ ys))) E0' ∧ es'.length + rest.length ≤ xs.length ∧ Grow K O Hs H1 n p es' H5) okS rfl hnB (O.trans o2 o3) (O.trans o o1) (rA.mono (O.ext o3)) (fA.mono (O.ext o3)) (by omega) (rel.mono (O.ext o3)) h4 fun d H4 hd w4 => ⟨es ++ [d], ?_, by rw [List.length_append, List.length_singleton]; omega, w4⟩
        have e : (fun ys => Q0 (.lst (es ++ d :: ys))) = fun ys => Q0 (.lst (es ++ [d] ++ ys)) := by
          funext ys
          rw [List.append_assoc]
          rfl
        rw [← e]
        exact hd
  · obtain ⟨h1, h2, h3⟩ := w.done hp (O.trans o o1)
    have hS' : Q0 (.lst (es ++ [])) := hS
    rw [List.append_nil] at hS'
    exact hq _ _ H' hS' (O.trans o1 h1) h2 (h3.less hn)
instance [a : CVI K O E wi fi] [c : CVG K g u] [t : CVT K O E0 tt ft] [b : CV K O E0 0 te fe] : CV K O E 0 (tLc wi g (tHidT tt) (tHid te) vs) (lcF vs fi u ft fe) := ⟨fun Hs okS σ H Q h => lcf_go (n := 0) (Nat.zero_le _) okS h⟩
end
end Wk

set_option Elab.async false
set_option linter.all false
set_option maxRecDepth 100000
set_option maxHeartbeats 4000000
namespace Wk
open PySem PySem.Spec PyProof.Rows L2
def hidL (H : Hp) (as : List Addr) : Hp := fun b => if b ∈ as then none else H b
theorem hidL_in {H : Hp} {as : List Addr} {a : Addr} (h : a ∈ as) : hidL H as a = none := if_pos h
theorem hidL_ne {H : Hp} {as : List Addr} {a : Addr} (h : a ∉ as) : hidL H as a = H a := if_neg h
theorem hidL_nil {H : Hp} : hidL H [] = H := by
  funext b
  exact hidL_ne (by simp)
theorem hidL_le {H : Hp} {as : List Addr} : L2.Same (hidL H as) H := fun b o e => by
  by_cases h : b ∈ as
  · rw [hidL_in h] at e
    cases e
  · rwa [hidL_ne h] at e
theorem hidL_cons {H : Hp} {a : Addr} {as : List Addr} : hidL H (a :: as) = hid (hidL H as) a := by
  funext b
  by_cases h : b = a
  · subst h
    rw [hid_same, hidL_in List.mem_cons_self]
  · rw [hid_ne h]
    by_cases h2 : b ∈ as
    · rw [hidL_in h2, hidL_in (List.mem_cons_of_mem _ h2)]
    · rw [hidL_ne h2, hidL_ne (by simp [h, h2])]
theorem hid_none {H : Hp} {a : Addr} (h : H a = none) : hid H a = H := by
  funext b
  by_cases e : b = a
  · rw [e, hid_same, h]
  · rw [hid_ne e]
theorem ord_hidL {O : Ord} : ∀ {as : List Addr} {H H' : Hp}, O.r H H' → (∀ a ∈ as, ∃ xs, H a = some (.lst xs)) → O.r (hidL H as) (hidL H' as)
  | [], H, H', o, _ => by
    rw [hidL_nil, hidL_nil]
    exact o
  | a :: as, H, H', o, h => by
    have ih := ord_hidL (as := as) o fun b hb => h b (List.mem_cons_of_mem _ hb)
    rw [hidL_cons, hidL_cons]
    by_cases hm : a ∈ as
    · rw [hid_none (hidL_in hm), hid_none (hidL_in hm)]
      exact ih
    · obtain ⟨xs, hx⟩ := h a List.mem_cons_self
      exact O.hid ih (by rw [hidL_ne hm]; exact hx)
def SlB (K : PySem.W.Frag) (Hr H00 H0 H : Hp) (as : List Addr) : Option V → Sl → Prop
  | _, .no => True
  | some v, .fz d => Rp K H00 v d
  | some v, .lt d => Rp K H0 v d
  | some v, .fr n d => Rp K H0 v d ∧ FrD H00 H0 n v d
  | some v, .fs n d => Rp K H0 v d ∧ FrD Hr H0 n v d
  | some v, .ow ds => ∃ a vs, v = .ref a ∧ a ∈ as ∧ H a = some (.lst vs) ∧ RpA K H0 vs ds
  | none, _ => False
structure RelB (K : PySem.W.Frag) (O : Ord) (Hr Hs H : Hp) (σ : L2.St) (ρ : En) (as : List Addr) (H00 : Hp) : Prop where
  len : σ.length = ρ.length
  hr : O.r Hr Hs
  hs : O.r Hs H00
  h0 : O.r H00 (hidL H as)
  own : ∀ a ∈ as, (∃ vs, H a = some (.lst vs)) ∧ NL H00 a
  sl : ∀ (i : Nat) s, ρ[i]? = some s → SlB K Hr H00 (hidL H as) H as (σ[i]?.join) s
  inj : ∀ (i j : Nat) ds es a, ρ[i]? = some (.ow ds) → ρ[j]? = some (.ow es) → σ[i]?.join = some (.ref a) → σ[j]?.join = some (.ref a) → i = j
def vis1 : Sl → Sl
  | .ow ds => .fr 1 (.lst ds)
  | .fs _ d => .lt d
  | s => s
def hid1 : Sl → Sl
  | .ow _ => .no
  | .fs _ d => .lt d
  | s => s
def vis (ρ : En) : En := ρ.map vis1
def hidE (ρ : En) : En := ρ.map hid1
def isOw : Sl → Bool
  | .ow _ => true
  | _ => false
def anyOw (ρ : En) : Bool := ρ.any isOw
section
variable {K : PySem.W.Frag} {O : Ord} {Hr Hs H H00 : Hp} {σ : L2.St} {ρ : En} {as : List Addr}
theorem RelB.full (R : RelB K O Hr Hs H σ ρ as H00) : O.r H00 H := O.trans R.h0 (O.same hidL_le)
theorem RelB.oS (R : RelB K O Hr Hs H σ ρ as H00) : O.r Hs H := O.trans R.hs R.full
theorem RelB.vis (R : RelB K O Hr Hs H σ ρ as H00) : RelS K H00 H σ (vis ρ) := by
  refine ⟨by rw [Wk.vis, List.length_map]; exact R.len, fun i s hs => ?_⟩
  unfold Wk.vis at hs
  rw [List.getElem?_map] at hs
  obtain ⟨t, ht, rfl⟩ := Option.map_eq_some_iff.mp hs
  have h := R.sl i t ht
  have e := LamX.ExtN.of (hidL_le (H := H) (as := as))
  cases hx : σ[i]?.join with
  | none =>
    rw [hx] at h
    cases t <;> first | exact True.intro | exact h.elim
  | some v =>
    rw [hx] at h
    cases t with
    | no => exact True.intro
    | fz d => exact Rp.mono (O.ext R.full) h
    | lt d => exact Rp.mono e h
    | fr n d => exact ⟨h.1.mono e, h.2.mono e⟩
    | fs n d => exact Rp.mono e h.1
    | ow ds =>
      obtain ⟨a, vs, rfl, h0, h1, h2⟩ := h
      refine ⟨.lst h1 (h2.mono e), fun es z => ?_⟩
      cases z
      exact ⟨a, vs, rfl, (R.own a h0).2, h1, FrA.zero⟩
theorem RelB.hid (R : RelB K O Hr Hs H σ ρ as H00) : RelS K H00 (hidL H as) σ (hidE ρ) := by
  refine ⟨by rw [hidE, List.length_map]; exact R.len, fun i s hs => ?_⟩
  unfold hidE at hs
  rw [List.getElem?_map] at hs
  obtain ⟨t, ht, rfl⟩ := Option.map_eq_some_iff.mp hs
  have h := R.sl i t ht
  cases hx : σ[i]?.join with
  | none =>
    rw [hx] at h
    cases t <;> first | exact True.intro | exact h.elim
  | some v =>
    rw [hx] at h
    cases t with
    | no => exact True.intro
    | fz d => exact Rp.mono (O.ext R.h0) h
    | lt d => exact h
    | fr n d => exact h
    | fs n d => exact h.1
    | ow ds => exact True.intro
theorem RelB.grow {H' : Hp} (R : RelB K O Hr Hs H σ ρ as H00) (o : O.r H H') : RelB K O Hr Hs H' σ ρ as H00 := by
  have o0 := ord_hidL o fun a ha => (R.own a ha).1
  refine ⟨R.len, R.hr, R.hs, O.trans R.h0 o0, fun a ha => ?_, fun i s hs => ?_, R.inj⟩
  · obtain ⟨⟨vs, h1⟩, h2⟩ := R.own a ha
    exact ⟨⟨vs, hp_monoL (O.ext o) h1⟩, h2⟩
  · have h := R.sl i s hs
    cases hx : σ[i]?.join with
    | none =>
      rw [hx] at h
      cases s <;> first | exact True.intro | exact h.elim
    | some v =>
      rw [hx] at h
      cases s with
      | no => exact True.intro
      | fz d => exact h
      | lt d => exact Rp.mono (O.ext o0) h
      | fr n d => exact ⟨h.1.mono (O.ext o0), h.2.mono (O.ext o0)⟩
      | fs n d => exact ⟨h.1.mono (O.ext o0), h.2.mono (O.ext o0)⟩
      | ow ds =>
        obtain ⟨a, vs, h1, h2, h3, h4⟩ := h
        exact ⟨a, vs, h1, h2, hp_monoL (O.ext o) h3, h4.mono (O.ext o0)⟩
mutual
def flatD : D → Bool
  | .lst _ => false
  | .tup ds => flatA ds
  | .obj _ _ ds => flatA ds
  | .drw => false
  | .scr => false
  | .dct _ _ => false
  | _ => true
def flatA : List D → Bool
  | [] => true
  | d :: ds => flatD d && flatA ds
end
mutual
theorem flat_hid {H : Hp} {as : List Addr} (h : ∀ a ∈ as, ∃ xs, H a = some (.lst xs)) : ∀ {v : V} {d : D}, Rp K H v d → flatD d = true → Rp K (hidL H as) v d
  | _, .non, r, _ => by cases r; exact .non
  | _, .bl _, r, _ => by cases r; exact .bl _
  | _, .int _, r, _ => by cases r; exact .int _
  | _, .str _, r, _ => by cases r; exact .str _
  | _, .lst _, _, f => by cases f
  | _, .drw, _, f => by cases f
  | _, .scr, _, f => by cases f
  | _, .lam _ _ _, r, _ => by
    cases r with
    | @lam a cells q le la =>
      obtain ⟨params, body, scope, pos, pm, c', ctv, e1, h1, h2⟩ := la
      have keep : ∀ {b : Addr} {o : HO}, H b = some o → (∀ ys, o ≠ .lst ys) → hidL H as b = some o := fun {b o} e n => by
        rw [hidL_ne fun m => ?_]
        · exact e
        · obtain ⟨ys, q⟩ := h b m
          rw [e] at q
          exact n ys (Option.some.inj q)
      exact .lam ⟨params, body, scope, pos, pm, c', ctv, e1, keep h1 (fun ys z => by unfold LamF at z; cases z), keep h2 (fun ys z => by unfold LamX.CodeO at z; cases z)⟩
  | _, .dct _ _, _, f => by cases f
  | _, .adr _, r, _ => by cases r; exact .adr _
  | _, .tup ds, r, f => by
    cases r with
    | @tup a xs _ h1 h2 =>
      have r2 := flat_hidA h h2 (by simpa [flatD] using f)
      have keep : ∀ {o : HO}, H a = some o → (∀ ys, o ≠ .lst ys) → hidL H as a = some o := fun {o} e n => by
        rw [hidL_ne fun m => ?_]
        · exact e
        · obtain ⟨ys, q⟩ := h a m
          rw [e] at q
          exact n ys (Option.some.inj q)
      refine .tup ?_ r2
      rcases h1 with (h1 | ⟨o, h1⟩) | h1
      · exact .inl (.inl (keep h1 fun _ z => by cases z))
      · exact .inl (.inr ⟨o, keep h1 fun _ z => by cases z⟩)
      · exact .inr h1
  | _, .obj C ns ds, r, f => by
    cases r with
    | @obj a C dx fs ns xs _ h1 e1 e2 h2 =>
      have r2 := flat_hidA h h2 (by simpa [flatD] using f)
      refine .obj (dx := dx) (fs := fs) ?_ e1 e2 r2
      rw [hidL_ne fun m => ?_]
      · exact h1
      · obtain ⟨ys, q⟩ := h a m
        rw [h1] at q
        cases q
theorem flat_hidA {H : Hp} {as : List Addr} (h : ∀ a ∈ as, ∃ xs, H a = some (.lst xs)) : ∀ {vs : List V} {ds : List D}, RpA K H vs ds → flatA ds = true → RpA K (hidL H as) vs ds
  | _, [], r, _ => by cases r; exact .nil
  | _, d :: ds, r, f => by
    cases r with
    | cons h1 h2 =>
      rw [flatA, Bool.and_eq_true] at f
      exact .cons (flat_hid h h1 f.1) (flat_hidA h h2 f.2)
end
theorem RelB.set1 {i : Nat} {v : V} {s : Sl} (R : RelB K O Hr Hs H σ ρ as H00) (hv : SlB K Hr H00 (hidL H as) H as (some v) s) (ho : ∀ ds, s ≠ .ow ds) : RelB K O Hr Hs H (σ.set i (some v)) (ρ.set i s) as H00 := by
  refine ⟨by rw [List.length_set, List.length_set]; exact R.len, R.hr, R.hs, R.h0, R.own, fun j t ht => ?_, fun j k ds es a hj hk ej ek => ?_⟩
  · by_cases hj : i = j
    · subst hj
      have hl : i < ρ.length := by
        have := (List.getElem?_eq_some_iff.mp ht).1
        rwa [List.length_set] at this
      rw [List.getElem?_set_self hl] at ht
      cases ht
      rw [List.getElem?_set_self (by rw [R.len]; exact hl)]
      exact hv
    · rw [List.getElem?_set_ne hj] at ht ⊢
      exact R.sl j t ht
  · have nj : i ≠ j := fun z => by
      subst z
      have hl : i < ρ.length := by
        have := (List.getElem?_eq_some_iff.mp hj).1
        rwa [List.length_set] at this
      rw [List.getElem?_set_self hl] at hj
      exact ho ds (Option.some.inj hj)
    have nk : i ≠ k := fun z => by
      subst z
      have hl : i < ρ.length := by
        have := (List.getElem?_eq_some_iff.mp hk).1
        rwa [List.length_set] at this
      rw [List.getElem?_set_self hl] at hk
      exact ho es (Option.some.inj hk)
    rw [List.getElem?_set_ne nj] at hj ej
    rw [List.getElem?_set_ne nk] at hk ek
    exact R.inj j k ds es a hj hk ej ek
theorem toL_ow {d : D} : ∀ ds, toL d ≠ .ow ds := fun ds z => by cases d <;> cases z
theorem toL_B {v : V} {d : D} (h : Rp K (hidL H as) v d) : SlB K Hr H00 (hidL H as) H as (some v) (toL d) := by
  cases d <;> first
    | exact h
    | (cases h; exact .non)
    | (cases h; exact .bl _)
    | (cases h; exact .int _)
    | (cases h; exact .str _)
    | (cases h; exact .adr _)
theorem RelB.setM : ∀ {qs : List (Nat × V)} {ps : List (Nat × D)} {σ : L2.St} {ρ : En}, RelB K O Hr Hs H σ ρ as H00 → Upd K (hidL H as) qs ps → RelB K O Hr Hs H (setV σ qs) (setE ρ ps) as H00
  | _, _, _, _, h, .nil => h
  | _, _, σ, ρ, h, .cons (i := i) (v := v) (d := d) hv r => by
    show RelB K O Hr Hs H (setV (σ.set i (some v)) _) (setE (ρ.set i (toL d)) _) as H00
    exact RelB.setM (h.set1 (toL_B hv) toL_ow) r
def mrk1 : Sl → Sl
  | .lt d => .fz d
  | .fr _ d => .fz d
  | s => s
def mrk (ρ : En) : En := ρ.map mrk1
theorem RelB.mark (R : RelB K O Hr Hs H σ ρ as H00) : RelB K O Hr Hs H σ (mrk ρ) as (hidL H as) := by
  refine ⟨by rw [mrk, List.length_map]; exact R.len, R.hr, O.trans R.hs R.h0, O.refl _, fun a ha => ⟨(R.own a ha).1, NL.of (hidL_in ha)⟩, fun i s hs => ?_, fun i j ds es a hi hj => ?_⟩
  · unfold mrk at hs
    rw [List.getElem?_map] at hs
    obtain ⟨t, ht, rfl⟩ := Option.map_eq_some_iff.mp hs
    have h := R.sl i t ht
    cases hx : σ[i]?.join with
    | none =>
      rw [hx] at h
      cases t <;> first | exact True.intro | exact h.elim
    | some v =>
      rw [hx] at h
      cases t with
      | no => exact True.intro
      | fz d => exact Rp.mono (O.ext R.h0) h
      | lt d => exact h
      | fr n d => exact h.1
      | fs n d => exact h
      | ow ds => exact h
  · have back : ∀ {k : Nat} {ds : List D}, (mrk ρ)[k]? = some (.ow ds) → ρ[k]? = some (.ow ds) := fun {k ds} h => by
      unfold mrk at h
      rw [List.getElem?_map] at h
      obtain ⟨t, ht, e⟩ := Option.map_eq_some_iff.mp h
      cases t <;> cases e
      exact ht
    exact R.inj i j ds es a (back hi) (back hj)
end
theorem RelB.forget {K : PySem.W.Frag} {O : Ord} {Hr Hs H H00 : Hp} {σ : L2.St} {ρ : En} {as : List Addr} (R : RelB K O Hr Hs H σ ρ as H00) : ∀ fs : List Nat, RelB K O Hr Hs H σ (wipeE ρ fs) as H00
  | [] => R
  | i :: fs => by
    have ih := RelB.forget R fs
    show RelB K O Hr Hs H σ ((wipeE ρ fs).set i .no) as H00
    refine ⟨by rw [List.length_set]; exact ih.len, ih.hr, ih.hs, ih.h0, ih.own, fun j t ht => ?_, fun j k ds es a hj hk ej ek => ?_⟩
    · by_cases hj : i = j
      · subst hj
        have hl : i < (wipeE ρ fs).length := by
          have := (List.getElem?_eq_some_iff.mp ht).1
          rwa [List.length_set] at this
        rw [List.getElem?_set_self hl] at ht
        cases ht
        generalize σ[i]?.join = z
        cases z <;> exact True.intro
      · rw [List.getElem?_set_ne hj] at ht
        exact ih.sl j t ht
    · have ne : ∀ {m : Nat} {es : List D}, ((wipeE ρ fs).set i .no)[m]? = some (.ow es) → (wipeE ρ fs)[m]? = some (.ow es) := fun {m es} h => by
        by_cases hm : i = m
        · subst hm
          have hl : i < (wipeE ρ fs).length := by
            have := (List.getElem?_eq_some_iff.mp h).1
            rwa [List.length_set] at this
          rw [List.getElem?_set_self hl] at h
          cases h
        · rwa [List.getElem?_set_ne hm] at h
      exact ih.inj j k ds es a (ne hj) (ne hk) ej ek
structure Ks where
  nx : En → Prop
  rt : D → Prop
  bk : En → Prop
  ct : En → Prop
  ex : Er → Prop
def tSV (K : PySem.W.Frag) (O : Ord) (Hr Hs : Hp) (E : XK) (nr : Nat) (f : Ks → En → Prop) : TS := fun Dn σ H => ∃ ρ k as H00, RelB K O Hr Hs H σ ρ as H00 ∧ f k ρ ∧
  (∀ ρ' σ' H' as' H0', k.nx ρ' → RelB K O Hr Hs H' σ' ρ' as' H0' → Dn.nx σ' H') ∧ (∀ d v H', k.rt d → O.r Hs H' → Rp K H' v d → FrD Hr H' nr v d → Dn.rt v H') ∧
  (∀ ρ' σ' H' as' H0', k.bk ρ' → RelB K O Hr Hs H' σ' ρ' as' H0' → Dn.bk σ' H') ∧ (∀ ρ' σ' H' as' H0', k.ct ρ' → RelB K O Hr Hs H' σ' ρ' as' H0' → Dn.ct σ' H') ∧ (∀ e, k.ex e → RzE O E e Hs)
class CVS (K : PySem.W.Frag) (O : Ord) (E : XK) (nr : Nat) (t : TS) (f : outParam (Ks → En → Prop)) : Prop where
  go : ∀ Hr Hs, O.ok Hs → O.ok Hr → ∀ D σ H, tSV K O Hr Hs E nr f D σ H → t D σ H
section
variable {K : PySem.W.Frag} {O : Ord} {E : XK} {nr : Nat} {t u : TS} {ft fu : Ks → En → Prop} {te : TE} {fe : En → M} {tt : TT} {fb : En → MM Bool} {g : TG} {ug : D → Option (List (Nat × D))}
def vNext : Ks → En → Prop := fun k ρ => k.nx ρ
def vIf (fb : En → MM Bool) (ft fu : Ks → En → Prop) : Ks → En → Prop := fun k ρ => fb (vis ρ) (fun c => if c = true then ft k ρ else fu k ρ) k.ex
def visR1 : Sl → Sl
  | .ow ds => .fr 1 (.lst ds)
  | .fs n d => .fr n d
  | s => s
def visR (ρ : En) : En := ρ.map visR1
theorem RelB.visR {Hr Hs H H00 : Hp} {σ : L2.St} {ρ : En} {as : List Addr} (R : RelB K O Hr Hs H σ ρ as H00) : RelS K Hr H σ (visR ρ) := by
  have ob : ∀ a, NL H00 a → NL Hr a := fun a z => z.back (O.ext (O.trans R.hr R.hs))
  refine ⟨by rw [Wk.visR, List.length_map]; exact R.len, fun i s hs => ?_⟩
  unfold Wk.visR at hs
  rw [List.getElem?_map] at hs
  obtain ⟨t, ht, rfl⟩ := Option.map_eq_some_iff.mp hs
  have h := R.sl i t ht
  have e := LamX.ExtN.of (hidL_le (H := H) (as := as))
  cases hx : σ[i]?.join with
  | none =>
    rw [hx] at h
    cases t <;> first | exact True.intro | exact h.elim
  | some v =>
    rw [hx] at h
    cases t with
    | no => exact True.intro
    | fz d => exact Rp.mono (O.ext R.full) h
    | lt d => exact Rp.mono e h
    | fr n d => exact ⟨h.1.mono e, (h.2.base ob).mono e⟩
    | fs n d => exact ⟨h.1.mono e, h.2.mono e⟩
    | ow ds =>
      obtain ⟨a, vs, rfl, h0, h1, h2⟩ := h
      refine ⟨.lst h1 (h2.mono e), fun es z => ?_⟩
      cases z
      exact ⟨a, vs, rfl, ob a (R.own a h0).2, h1, FrA.zero⟩
def vRet (fe : En → M) : Ks → En → Prop := fun k ρ => fe (visR ρ) k.rt k.ex
def vDrop (fe : En → M) : Ks → En → Prop := fun k ρ => fe (vis ρ) (fun _ => k.nx ρ) k.ex
instance : CVS K O E nr tNext vNext := ⟨fun Hr Hs okS okR D σ H ⟨ρ, k, as, H00, R, h, hn, _⟩ => hn ρ σ H as H00 h R⟩
def vSeq (ft fu : Ks → En → Prop) : Ks → En → Prop := fun k ρ => ft { k with nx := fun ρ' => fu k ρ' } ρ
instance [a : CVS K O E nr t ft] [b : CVS K O E nr u fu] : CVS K O E nr (tSeq t u) (vSeq ft fu) := ⟨fun Hr Hs okS okR D σ H ⟨ρ, k, as, H00, R, h, hn, hr, hb, hc, he⟩ =>
  a.go Hr Hs okS okR _ σ H ⟨ρ, _, as, H00, R, h, fun ρ' σ' H' as' H0' h' R' => b.go Hr Hs okS okR D σ' H' ⟨ρ', k, as', H0', R', h', hn, hr, hb, hc, he⟩, hr, hb, hc, he⟩⟩
theorem exAt {O : Ord} {E : XK} {Hs H : Hp} {k : Ks} (he : ∀ e, k.ex e → RzE O E e Hs) (o : O.r Hs H) : ∀ e, k.ex e → RzE O E e H := fun e z => (he e z).mono o
instance [a : CVT K O E tt fb] [b : CVS K O E nr t ft] [c : CVS K O E nr u fu] : CVS K O E nr (tIfS tt t u) (vIf fb ft fu) := ⟨fun Hr Hs okS okR D σ H ⟨ρ, k, as, H00, R, h, hn, hr, hb, hc, he⟩ =>
  a.go H00 (O.okr R.hs okS) σ H _ ⟨vis ρ, R.vis, R.full, _, k.ex, h, fun x H1 hx o1 => by
    have R1 := R.grow o1
    cases x with
    | true =>
      rw [if_pos rfl] at hx
      show if true = true then t D σ H1 else u D σ H1
      rw [if_pos rfl]
      exact b.go Hr Hs okS okR D σ H1 ⟨ρ, k, as, H00, R1, hx, hn, hr, hb, hc, he⟩
    | false =>
      rw [if_neg Bool.false_ne_true] at hx
      show if false = true then t D σ H1 else u D σ H1
      rw [if_neg Bool.false_ne_true]
      exact c.go Hr Hs okS okR D σ H1 ⟨ρ, k, as, H00, R1, hx, hn, hr, hb, hc, he⟩, exAt he R.oS⟩⟩
instance [a : CV K O E nr te fe] : CVS K O E nr (tRet te) (vRet fe) := ⟨fun Hr Hs okS okR D σ H ⟨ρ, k, as, H00, R, h, hn, hr, hb, hc, he⟩ =>
  a.go Hr okR σ H _ ⟨visR ρ, R.visR, O.trans R.hr R.oS, k.rt, k.ex, h, fun d v H1 hd o1 rv fv => hr d v H1 hd (O.trans R.oS o1) rv fv, exAt he R.oS⟩⟩
instance (priority := low) [a : CV K O E 0 te fe] : CVS K O E nr (tDrop te) (vDrop fe) := ⟨fun Hr Hs okS okR D σ H ⟨ρ, k, as, H00, R, h, hn, hr, hb, hc, he⟩ =>
  a.go H00 (O.okr R.hs okS) σ H _ ⟨vis ρ, R.vis, R.full, _, k.ex, h, fun d v H1 hd o1 rv fv => hn ρ σ H1 as H00 hd (R.grow o1), exAt he R.oS⟩⟩
def vAsg (ug : D → Option (List (Nat × D))) (fe : En → M) : Ks → En → Prop := fun k ρ => fe (vis ρ) (fun d => (anyOw ρ = true → flatD d = true) ∧ ∃ ps, ug d = some ps ∧ k.nx (setE ρ ps)) k.ex
theorem RelB.bare {Hr Hs H H00 : Hp} {σ : L2.St} {ρ : En} {as : List Addr} (R : RelB K O Hr Hs H σ ρ as H00) (h : anyOw ρ = false) : RelB K O Hr Hs H σ ρ [] H00 := by
  have no : ∀ {i : Nat} {ds : List D}, ρ[i]? = some (.ow ds) → False := fun {i ds} e => by
    have hm := List.mem_of_getElem? e
    have := List.any_eq_false.mp h _ hm
    exact this rfl
  refine ⟨R.len, R.hr, R.hs, by rw [hidL_nil]; exact R.full, fun a ha => (by cases ha), fun i s hs => ?_, fun i j ds es a hi => (no hi).elim⟩
  have hh := R.sl i s hs
  rw [hidL_nil]
  have e := LamX.ExtN.of (hidL_le (H := H) (as := as))
  cases hx : σ[i]?.join with
  | none =>
    rw [hx] at hh
    cases s <;> first | exact True.intro | exact hh.elim
  | some v =>
    rw [hx] at hh
    cases s with
    | no => exact True.intro
    | fz d => exact hh
    | lt d => exact Rp.mono e hh
    | fr n d => exact ⟨hh.1.mono e, hh.2.mono e⟩
    | fs n d => exact ⟨hh.1.mono e, hh.2.mono e⟩
    | ow ds => exact (no hs).elim
instance [a : CV K O E 0 te fe] [c : CVG K g ug] : CVS K O E nr (tAsg te g) (vAsg ug fe) := ⟨fun Hr Hs okS okR D σ H ⟨ρ, k, as, H00, R, h, hn, hr, hb, hc, he⟩ =>
  a.go H00 (O.okr R.hs okS) σ H _ ⟨vis ρ, R.vis, R.full, _, k.ex, h, fun d v H1 hd o1 rv _ => by
    obtain ⟨hf, ps, hp, hx⟩ := hd
    have R1 := R.grow o1
    cases ha : anyOw ρ with
    | true =>
      exact c.go v d (hidL H1 as) H1 σ _ ps hidL_le (flat_hid (fun a ha => (R1.own a ha).1) rv (hf ha)) hp fun qs up => hn _ _ H1 as H00 hx (R1.setM up)
    | false =>
      have R2 := R1.bare ha
      exact c.go v d (hidL H1 []) H1 σ _ ps hidL_le (by rw [hidL_nil]; exact rv) hp fun qs up => hn _ _ H1 [] H00 hx (R2.setM up), exAt he R.oS⟩⟩
end
end Wk

set_option Elab.async false
set_option linter.all false
set_option maxRecDepth 100000
set_option maxHeartbeats 4000000
namespace Wk
open PySem PySem.Spec PyProof.Rows L2
def unh (H' H : Hp) (as : List Addr) : Hp := fun b => if b ∈ as then H b else H' b
theorem unh_nil {H' H : Hp} : unh H' H [] = H' := by
  funext b
  exact if_neg (by simp)
theorem unh_in {H' H : Hp} {as : List Addr} {b : Addr} (h : b ∈ as) : unh H' H as b = H b := if_pos h
theorem unh_ne {H' H : Hp} {as : List Addr} {b : Addr} (h : b ∉ as) : unh H' H as b = H' b := if_neg h
theorem unh_hid {H' H : Hp} {as : List Addr} (h : ∀ a ∈ as, H' a = none) : hidL (unh H' H as) as = H' := by
  funext b
  by_cases e : b ∈ as
  · rw [hidL_in e, h b e]
  · rw [hidL_ne e, unh_ne e]
def Lsts (H : Hp) (as : List Addr) : Prop := ∀ a ∈ as, ∃ xs, H a = some (.lst xs)
def tHids (te : TE) : TE := fun σ H Q => ∃ as : List Addr, Lsts H as ∧ te σ (hidL H as) fun v H' => (∀ a ∈ as, H' a = none) → Q v (unh H' H as)
def iHids (wi : TI) : TI := fun σ H R => ∃ as : List Addr, Lsts H as ∧ wi σ (hidL H as) fun J H' => (∀ a ∈ as, H' a = none) → R J (unh H' H as)
section
variable {X : Cx}
theorem hide_step {H H' : Hp} {a : Addr} {xs : List V} {as : List Addr} (hm : a ∉ as) (e : H a = some (.lst xs)) (hn : H' a = none) : upd (unh H' (hid H a) as) a (.lst xs) = unh H' H (a :: as) := by
  funext b
  by_cases h : b = a
  · subst h
    rw [upd_same, unh_in List.mem_cons_self, e]
  · rw [upd_ne h]
    by_cases h2 : b ∈ as
    · rw [unh_in h2, unh_in (List.mem_cons_of_mem _ h2), hid_ne h]
    · rw [unh_ne h2, unh_ne (by simp [h, h2])]
theorem hidL_hid {H : Hp} {a : Addr} {as : List Addr} : hidL (hid H a) as = hidL H (a :: as) := by
  funext b
  by_cases h2 : b ∈ as
  · rw [hidL_in h2, hidL_in (List.mem_cons_of_mem _ h2)]
  · rw [hidL_ne h2]
    by_cases h : b = a
    · subst h
      rw [hid_same, hidL_in List.mem_cons_self]
    · rw [hid_ne h, hidL_ne (by simp [h, h2])]
theorem mem_dup {H : Hp} {a : Addr} {as : List Addr} (hm : a ∈ as) : hidL H (a :: as) = hidL H as := by
  rw [hidL_cons, hid_none (hidL_in hm)]
theorem unh_dup {H H' : Hp} {a : Addr} {as : List Addr} (hm : a ∈ as) : unh H' H (a :: as) = unh H' H as := by
  funext b
  by_cases h : b ∈ as
  · rw [unh_in h, unh_in (List.mem_cons_of_mem _ h)]
  · have : b ≠ a := fun z => h (z ▸ hm)
    rw [unh_ne h, unh_ne (by simp [h, this])]
theorem pe_hidA {e : Expr} {te : TE} (he : PE X e te) : ∀ (as : List Addr) (pins : List (Addr × Obj)) (s : Shared) (σ : L2.St) (H : Hp) (Q : VK), Inv X pins σ H s → Lsts H as → te σ (hidL H as) (fun v H' => (∀ a ∈ as, H' a = none) → Q v (unh H' H as)) → wpAny (model X.prog X.w) X.A (eval e X.env) (EP X pins σ Q) X.xe s
  | [], pins, s, σ, H, Q, I, _, h => by
    rw [hidL_nil] at h
    refine thn (he.run pins s σ H _ I h) fun v s1 ⟨x, H1, I1, r1, q1⟩ => ⟨x, H1, I1, r1, ?_⟩
    have := q1 (fun a ha => by cases ha)
    rwa [unh_nil] at this
  | a :: as, pins, s, σ, H, Q, I, L, h => by
    by_cases hm : a ∈ as
    · rw [mem_dup hm] at h
      have e : (fun v H' => (∀ b ∈ a :: as, H' b = none) → Q v (unh H' H (a :: as))) = fun v H' => (∀ b ∈ as, H' b = none) → Q v (unh H' H as) := by
        funext v H'
        rw [unh_dup hm]
        apply propext
        exact ⟨fun q z => q fun b hb => z b ((List.mem_cons.mp hb).elim (fun e => e ▸ hm) id), fun q z => q fun b hb => z b (List.mem_cons_of_mem _ hb)⟩
      rw [e] at h
      exact pe_hidA he as pins s σ H Q I (fun b hb => L b (List.mem_cons_of_mem _ hb)) h
    · obtain ⟨xs, ea⟩ := L a List.mem_cons_self
      obtain ⟨ob, ho, J⟩ := Inv.hide I ea
      rw [← hidL_hid] at h
      refine thn (pe_hidA he as _ s σ (hid H a) (fun v H2 => H2 a = none → Q v (upd H2 a (.lst xs))) J (fun b hb => ?_) ?_) fun v s1 ⟨x, H1, I1, r1, q1⟩ => ?_
      · have hb' : b ≠ a := fun z => hm (z ▸ hb)
        rw [hid_ne hb']
        exact L b (List.mem_cons_of_mem _ hb)
      · have e : (fun v H' => (∀ b ∈ as, H' b = none) → unh H' (hid H a) as a = none → Q v (upd (unh H' (hid H a) as) a (.lst xs))) = fun v H' => (∀ b ∈ a :: as, H' b = none) → Q v (unh H' H (a :: as)) := by
          funext v H'
          apply propext
          rw [unh_ne hm]
          constructor
          · intro q z
            rw [← hide_step hm ea (z a List.mem_cons_self)]
            exact q (fun b hb => z b (List.mem_cons_of_mem _ hb)) (z a List.mem_cons_self)
          · intro q z za
            rw [hide_step hm ea za]
            exact q fun b hb => (List.mem_cons.mp hb).elim (fun e => e ▸ za) (z b)
        rw [e]
        exact h
      · obtain ⟨hn, I2⟩ := Inv.unhide I ea ho I1
        exact ⟨x, _, I2, r1, q1 hn⟩
theorem pe_hids {e : Expr} {te : TE} (he : PE X e te) : PE X e (tHids te) := ⟨fun pins s σ H Q I ⟨as, L, h⟩ => pe_hidA he as pins s σ H Q I L h⟩
theorem pi_hidA {tg e : Expr} {wi : TI} (he : PI X tg e wi) : ∀ (as : List Addr) (pins : List (Addr × Obj)) (s : Shared) (σ : L2.St) (H : Hp) (R : It → Hp → Prop), Inv X pins σ H s → Lsts H as → wi σ (hidL H as) (fun J H' => (∀ a ∈ as, H' a = none) → R J (unh H' H as)) → wpAny (model X.prog X.w) X.A (eval e X.env) (fun v s1 => wpAny (model X.prog X.w) X.A (pyIter v) (PIE X pins σ tg R) X.xe s1) X.xe s
  | [], pins, s, σ, H, R, I, _, h => by
    rw [hidL_nil] at h
    refine thn (he.run pins s σ H _ I h) fun v s1 h1 => thn h1 fun itv s2 ⟨it, fp, tn, JJ, H', e1, I1, T, t0, fk, r⟩ => ⟨it, fp, tn, JJ, H', e1, I1, T, t0, fk, ?_⟩
    have := r (fun a ha => by cases ha)
    rwa [unh_nil] at this
  | a :: as, pins, s, σ, H, R, I, L, h => by
    by_cases hm : a ∈ as
    · rw [mem_dup hm] at h
      have e : (fun v H' => (∀ b ∈ a :: as, H' b = none) → R v (unh H' H (a :: as))) = fun v H' => (∀ b ∈ as, H' b = none) → R v (unh H' H as) := by
        funext v H'
        rw [unh_dup hm]
        apply propext
        exact ⟨fun q z => q fun b hb => z b ((List.mem_cons.mp hb).elim (fun e => e ▸ hm) id), fun q z => q fun b hb => z b (List.mem_cons_of_mem _ hb)⟩
      rw [e] at h
      exact pi_hidA he as pins s σ H R I (fun b hb => L b (List.mem_cons_of_mem _ hb)) h
    · obtain ⟨xs, ea⟩ := L a List.mem_cons_self
      obtain ⟨ob, ho, J⟩ := Inv.hide I ea
      rw [← hidL_hid] at h
      refine thn (pi_hidA he as _ s σ (hid H a) (fun v H2 => H2 a = none → R v (upd H2 a (.lst xs))) J (fun b hb => ?_) ?_) fun v s1 h1 => thn h1 fun itv s2 ⟨it, fp, tn, JJ, H', e1, I1, T, t0, fk, r⟩ => ?_
      · have hb' : b ≠ a := fun z => hm (z ▸ hb)
        rw [hid_ne hb']
        exact L b (List.mem_cons_of_mem _ hb)
      · have e : (fun v H' => (∀ b ∈ as, H' b = none) → unh H' (hid H a) as a = none → R v (upd (unh H' (hid H a) as) a (.lst xs))) = fun v H' => (∀ b ∈ a :: as, H' b = none) → R v (unh H' H (a :: as)) := by
          funext v H'
          apply propext
          rw [unh_ne hm]
          constructor
          · intro q z
            rw [← hide_step hm ea (z a List.mem_cons_self)]
            exact q (fun b hb => z b (List.mem_cons_of_mem _ hb)) (z a List.mem_cons_self)
          · intro q z za
            rw [hide_step hm ea za]
            exact q fun b hb => (List.mem_cons.mp hb).elim (fun e => e ▸ za) (z b)
        rw [e]
        exact h
      · obtain ⟨hn, I2⟩ := Inv.unhide I ea ho I1
        refine ⟨it, fp, tn, JJ, _, e1, I2, T, t0, fun b hb => ?_, r hn⟩
        obtain ⟨f0, f1, f2, f3, f4, f5⟩ := fk b hb
        have hba : b ≠ a := fun z => f5 (a, ob) (by simp) z.symm
        exact ⟨by rw [upd_ne hba]; exact f0, f1, f2, f3, f4, fun p hp => f5 p (by rcases List.mem_append.mp hp with h | h <;> simp [h])⟩
theorem pi_hids {tg e : Expr} {wi : TI} (he : PI X tg e wi) : PI X tg e (iHids wi) := ⟨fun pins s σ H R I ⟨as, L, h⟩ => pi_hidA he as pins s σ H R I L h⟩
end
section
variable {X : Cx} {pins : List (Addr × Obj)} {σ : L2.St} {H : Hp} {s : Shared}
theorem Inv.unhideS {σ' : L2.St} {a : Addr} {xs : List V} {ob : Obj} {H' : Hp} {s' : Shared} (I : Inv X pins σ H s) (e : H a = some (.lst xs)) (ho : s.heap.get? a = some ob) (J : Inv X (pins ++ [(a, ob)]) σ' H' s') : H' a = none ∧ Inv X pins σ' (upd H' a (.lst xs)) s' := by
  have hp := J.pin (a, ob) (by simp)
  have hn : H' a = none := hp.2.1
  refine ⟨hn, ?_⟩
  obtain ⟨hz, its, n, rv, ho'⟩ := id (I.hok a _ e)
  rw [ho] at ho'
  have eo := Option.some.inj ho'
  have nn : ∀ {b : Addr} {u : HO}, H' b = some u → b ≠ a := fun {b u} q => ne_of_none q hn
  refine ⟨J.ok, J.os, J.bare, ⟨J.base.keep, J.base.slot, fun b o q m hx => ?_, J.base.there, fun b ys q => ?_, fun b o u q => ?_, fun b ps q => ?_⟩, J.loc, J.cell, ?_, fun x c q => ?_, fun p hq => ?_, ?_, J.len⟩
  · have hb : b ≠ a := fun z => by
      have y := I.base.free b o q m hx
      rw [z, e] at y
      cases y
    rw [upd_ne hb]
    exact J.base.free b o q m hx
  · have z := J.base.tups b ys q
    rw [upd_ne (nn z)]
    exact z
  · have z := J.base.frzs b o u q
    rw [upd_ne (nn z)]
    exact z
  · obtain ⟨more, z⟩ := J.base.tbls b ps q
    exact ⟨more, by rw [upd_ne (nn z)]; exact z⟩
  · have hb : X.env.locals ≠ a := fun z => by
      have y := I.free
      rw [z, e] at y
      cases y
    rw [upd_ne hb]
    exact J.free
  · have hb : c ≠ a := fun z => by
      have y := I.freeC x c q
      rw [z, e] at y
      cases y
    rw [upd_ne hb]
    exact J.freeC x c q
  · obtain ⟨h1, h2, h3⟩ := J.pin p (by rw [← List.append_assoc]; exact List.mem_append_left _ hq)
    have hb : p.1 ≠ a := fun z => by
      have y := (I.pin p hq).2.1
      rw [z, e] at y
      cases y
    exact ⟨h1, by rw [upd_ne hb]; exact h2, h3⟩
  · intro b u q
    by_cases hb : b = a
    · subst hb
      rw [upd_same] at q
      cases q
      exact ⟨hz, its, n, rv, by rw [← eo]; exact hp.1⟩
    · rw [upd_ne hb] at q
      exact (J.hok b u q).stay (fun c v _ r => r) (fun c r => by rw [upd_ne (nn r)]; exact r) fun c ys r => by rw [upd_ne (nn r)]; exact r
def hidEnds (D : Ends) (H : Hp) (as : List Addr) : Ends := ⟨fun σ' H' => (∀ a ∈ as, H' a = none) → D.nx σ' (unh H' H as), fun v H' => (∀ a ∈ as, H' a = none) → D.rt v (unh H' H as), fun σ' H' => (∀ a ∈ as, H' a = none) → D.bk σ' (unh H' H as), fun σ' H' => (∀ a ∈ as, H' a = none) → D.ct σ' (unh H' H as)⟩
def tHidS (t : TS) : TS := fun D σ H => ∃ as : List Addr, Lsts H as ∧ t (hidEnds D H as) σ (hidL H as)
theorem hid_prop {H H' : Hp} {a : Addr} {xs : List V} {as : List Addr} {P : Hp → Prop} (hm : a ∉ as) (ea : H a = some (.lst xs)) : ((∀ b ∈ as, H' b = none) → unh H' (hid H a) as a = none → P (upd (unh H' (hid H a) as) a (.lst xs))) = ((∀ b ∈ a :: as, H' b = none) → P (unh H' H (a :: as))) := by
  apply propext
  rw [unh_ne hm]
  constructor
  · intro q z
    rw [← hide_step hm ea (z a List.mem_cons_self)]
    exact q (fun b hb => z b (List.mem_cons_of_mem _ hb)) (z a List.mem_cons_self)
  · intro q z za
    rw [hide_step hm ea za]
    exact q fun b hb => (List.mem_cons.mp hb).elim (fun e => e ▸ za) (z b)
theorem hid_dup {H H' : Hp} {a : Addr} {as : List Addr} {P : Hp → Prop} (hm : a ∈ as) : ((∀ b ∈ a :: as, H' b = none) → P (unh H' H (a :: as))) = ((∀ b ∈ as, H' b = none) → P (unh H' H as)) := by
  rw [unh_dup hm]
  apply propext
  exact ⟨fun q z => q fun b hb => z b ((List.mem_cons.mp hb).elim (fun e => e ▸ hm) id), fun q z => q fun b hb => z b (List.mem_cons_of_mem _ hb)⟩
def hid1Ends (D : Ends) (a : Addr) (xs : List V) : Ends := ⟨fun σ' H' => H' a = none → D.nx σ' (upd H' a (.lst xs)), fun v H' => H' a = none → D.rt v (upd H' a (.lst xs)), fun σ' H' => H' a = none → D.bk σ' (upd H' a (.lst xs)), fun σ' H' => H' a = none → D.ct σ' (upd H' a (.lst xs))⟩
theorem ps_hidA {st : Stmt} {t : TS} (he : PS X st t) : ∀ (as : List Addr) (pins : List (Addr × Obj)) (s : Shared) (σ : L2.St) (H : Hp) (D : Ends), Inv X pins σ H s → Lsts H as → t (hidEnds D H as) σ (hidL H as) → wpAny (model X.prog X.w) X.A (exec st X.env) (SP X pins D) X.xe s
  | [], pins, s, σ, H, D, I, _, h => by
    rw [hidL_nil] at h
    refine thn (he.run pins s σ H _ I h) fun f s1 hf => ?_
    have e0 : ∀ {H' : Hp} {P : Hp → Prop}, ((∀ a ∈ ([] : List Addr), H' a = none) → P (unh H' H [])) → P H' := fun {H' P} q => by
      have := q (fun a ha => by cases ha)
      rwa [unh_nil] at this
    cases f with
    | next => obtain ⟨σ', H', I1, q⟩ := hf; exact ⟨σ', H', I1, e0 (P := fun h => D.nx σ' h) q⟩
    | brk => obtain ⟨σ', H', I1, q⟩ := hf; exact ⟨σ', H', I1, e0 (P := fun h => D.bk σ' h) q⟩
    | cont => obtain ⟨σ', H', I1, q⟩ := hf; exact ⟨σ', H', I1, e0 (P := fun h => D.ct σ' h) q⟩
    | ret u => obtain ⟨v, σ', H', I1, r, q⟩ := hf; exact ⟨v, σ', H', I1, r, e0 (P := fun h => D.rt v h) q⟩
  | a :: as, pins, s, σ, H, D, I, L, h => by
    by_cases hm : a ∈ as
    · rw [mem_dup hm] at h
      have e : hidEnds D H (a :: as) = hidEnds D H as := by
        unfold hidEnds
        congr 1
        · funext σ' H'; exact hid_dup (P := fun h => D.nx σ' h) hm
        · funext v H'; exact hid_dup (P := fun h => D.rt v h) hm
        · funext σ' H'; exact hid_dup (P := fun h => D.bk σ' h) hm
        · funext σ' H'; exact hid_dup (P := fun h => D.ct σ' h) hm
      rw [e] at h
      exact ps_hidA he as pins s σ H D I (fun b hb => L b (List.mem_cons_of_mem _ hb)) h
    · obtain ⟨xs, ea⟩ := L a List.mem_cons_self
      obtain ⟨ob, ho, J⟩ := Inv.hide I ea
      rw [← hidL_hid] at h
      refine thn (ps_hidA he as _ s σ (hid H a) (hid1Ends D a xs) J (fun b hb => ?_) ?_) fun f s1 hf => ?_
      · have hb' : b ≠ a := fun z => hm (z ▸ hb)
        rw [hid_ne hb']
        exact L b (List.mem_cons_of_mem _ hb)
      · have e : hidEnds (hid1Ends D a xs) (hid H a) as = hidEnds D H (a :: as) := by
          unfold hidEnds hid1Ends
          congr 1
          · funext σ' H'; exact hid_prop (P := fun h => D.nx σ' h) hm ea
          · funext v H'; exact hid_prop (P := fun h => D.rt v h) hm ea
          · funext σ' H'; exact hid_prop (P := fun h => D.bk σ' h) hm ea
          · funext σ' H'; exact hid_prop (P := fun h => D.ct σ' h) hm ea
        rw [e]
        exact h
      · cases f with
        | next =>
          obtain ⟨σ', H', I1, q⟩ := hf
          obtain ⟨hn, I2⟩ := Inv.unhideS I ea ho I1
          exact ⟨σ', _, I2, q hn⟩
        | brk =>
          obtain ⟨σ', H', I1, q⟩ := hf
          obtain ⟨hn, I2⟩ := Inv.unhideS I ea ho I1
          exact ⟨σ', _, I2, q hn⟩
        | cont =>
          obtain ⟨σ', H', I1, q⟩ := hf
          obtain ⟨hn, I2⟩ := Inv.unhideS I ea ho I1
          exact ⟨σ', _, I2, q hn⟩
        | ret u =>
          obtain ⟨v, σ', H', I1, r, q⟩ := hf
          obtain ⟨hn, I2⟩ := Inv.unhideS I ea ho I1
          exact ⟨v, σ', _, I2, r, q hn⟩
theorem ps_hids {st : Stmt} {t : TS} (he : PS X st t) : PS X st (tHidS t) := ⟨fun pins s σ H D I ⟨as, L, h⟩ => ps_hidA he as pins s σ H D I L h⟩
end
end Wk

set_option Elab.async false
set_option linter.all false
set_option maxRecDepth 100000
set_option maxHeartbeats 4000000
namespace Wk
open PySem PySem.Spec PyProof.Rows L2
section
variable {K : PySem.W.Frag} {O : Ord} {E : XK} {nr : Nat} {t u : TS} {ft fu : Ks → En → Prop} {te ta tb : TE} {fe fa fi1 : En → M} {tt : TT} {fb : En → MM Bool} {g : TG} {ug : D → Option (List (Nat × D))} {wi : TI} {fi : En → MM (List D)} {tA : TA} {fA : En → MM (List D)} {N : Nat}
inductive Wk1 : Sl → Sl → Prop
  | refl (s : Sl) : Wk1 s s
  | no (s : Sl) : Wk1 s .no
  | fz (d : D) : Wk1 (.fz d) (.lt d)
  | fr (n : Nat) (d : D) : Wk1 (.fr n d) (.lt d)
  | fs (n : Nat) (d : D) : Wk1 (.fs n d) (.lt d)
inductive WkE : En → En → Prop
  | nil : WkE [] []
  | cons {s s' : Sl} {ρ ρ' : En} : Wk1 s s' → WkE ρ ρ' → WkE (s :: ρ) (s' :: ρ')
theorem WkE.refl : ∀ ρ : En, WkE ρ ρ
  | [] => .nil
  | s :: ρ => .cons (.refl s) (WkE.refl ρ)
theorem WkE.of_eq {ρ ρ' : En} (h : ρ = ρ') : WkE ρ ρ' := h ▸ .refl ρ
theorem WkE.len {ρ ρ' : En} (h : WkE ρ ρ') : ρ.length = ρ'.length := by
  induction h with
  | nil => rfl
  | cons _ _ ih => rw [List.length_cons, List.length_cons, ih]
theorem WkE.at {ρ ρ' : En} (h : WkE ρ ρ') : ∀ {i : Nat} {s' : Sl}, ρ'[i]? = some s' → ∃ s, ρ[i]? = some s ∧ Wk1 s s' := by
  induction h with
  | nil => exact fun h => nomatch h
  | cons w _ ih =>
    intro i s' hs
    cases i with
    | zero =>
      cases hs
      exact ⟨_, rfl, w⟩
    | succ i => exact ih hs
theorem RelB.weak {Hr Hs H H00 : Hp} {σ : L2.St} {ρ ρ' : En} {as : List Addr} (R : RelB K O Hr Hs H σ ρ as H00) (w : WkE ρ ρ') : RelB K O Hr Hs H σ ρ' as H00 := by
  have hw : ∀ {i : Nat} {ds : List D}, ρ'[i]? = some (.ow ds) → ρ[i]? = some (.ow ds) := fun {i ds} h => by
    obtain ⟨s, h1, h2⟩ := w.at h
    cases h2
    exact h1
  refine ⟨R.len.trans w.len, R.hr, R.hs, R.h0, R.own, fun i s' hs => ?_, fun i j ds es a hi hj => R.inj i j ds es a (hw hi) (hw hj)⟩
  obtain ⟨s, h1, h2⟩ := w.at hs
  have h3 := R.sl i s h1
  cases h2 with
  | refl => exact h3
  | no =>
    generalize σ[i]?.join = z
    cases z <;> exact True.intro
  | fz d =>
    revert h3
    generalize σ[i]?.join = z
    intro h3
    cases z with
    | none => exact h3
    | some v => exact Rp.mono (O.ext R.h0) h3
  | fr n d =>
    revert h3
    generalize σ[i]?.join = z
    intro h3
    cases z with
    | none => exact h3
    | some v => exact h3.1
  | fs n d =>
    revert h3
    generalize σ[i]?.join = z
    intro h3
    cases z with
    | none => exact h3
    | some v => exact h3.1
def forV (fs : List Nat) (ug : D → Option (List (Nat × D))) (fb : Ks → En → Prop) (k : Ks) : List D → En → Prop
  | [], ρ => ∃ ρ2, WkE ρ ρ2 ∧ k.nx ρ2
  | d :: ds, ρ => ∃ ρ2, WkE ρ ρ2 ∧ ∃ ps, ug d = some ps ∧ fb ⟨fun ρ' => forV fs ug fb k ds (wipeE ρ' fs), k.rt, k.nx, fun ρ' => forV fs ug fb k ds (wipeE ρ' fs), k.ex⟩ (setE ρ2 ps)
def tForF (fs : List Nat) (wi : TI) (g : TG) (t : TS) : TS := tFor wi g t
theorem ps_forF {X : Cx} {st : Stmt} (fs : List Nat) (h : PS X st (tFor wi g t)) : PS X st (tForF fs wi g t) := h
theorem for_go {fs : List Nat} {Hr Hs H1 H00 : Hp} {σ : L2.St} {ρ : En} {as : List Addr} {J : It} {ds : List D} {D : Ends} {k : Ks} [b : CVS K O E nr t ft] [c : CVG K g ug] (okS : O.ok Hs) (okR : O.ok Hr) (hRs : O.r Hr Hs) (B : Hp) (ok : ItOk K J ds B) (oB : O.r Hs B) (R : RelB K O Hr B H1 σ ρ as H00) (h : forV fs ug ft k ds ρ)
    (hn : ∀ ρ' σ' H' as' H0', k.nx ρ' → RelB K O Hr Hs H' σ' ρ' as' H0' → D.nx σ' H') (hr : ∀ d v H', k.rt d → O.r Hs H' → Rp K H' v d → FrD Hr H' nr v d → D.rt v H')
    (he : ∀ e, k.ex e → RzE O E e Hs) : FL J g t D σ H1 := by
  have up : ∀ {H : Hp} {σ : L2.St} {ρ : En} {as : List Addr} {H00 : Hp}, RelB K O Hr B H σ ρ as H00 → RelB K O Hr Hs H σ ρ as H00 := fun R => ⟨R.len, hRs, O.trans oB R.hs, R.h0, R.own, R.sl, R.inj⟩
  refine fl_walk ok.walk (fun i σ' H' => ∃ ρ' as' H0', RelB K O Hr B H' σ' ρ' as' H0' ∧ forV fs ug ft k (ds.drop i) ρ') ⟨ρ, as, H00, R, h⟩ (fun i σ' H' _ ⟨ρ', as', H0', R', _⟩ => O.ext (O.trans R'.hs R'.full)) (fun i x σ' H' H'' hi ⟨ρ', as', H0', R', h'⟩ ⟨sm, d, hd, rv⟩ => ?_) (fun σ' H' ⟨ρ', as', H0', R', h'⟩ => ?_)
  · have e : ds.drop i = d :: ds.drop (i + 1) := by
      rw [List.drop_eq_getElem_cons hi]
      have := List.getElem?_eq_getElem hi
      rw [hd] at this
      rw [Option.some.inj this]
    rw [e] at h'
    obtain ⟨ρ2, w, ps, h1, h2⟩ := h'
    have R' := R'.weak w
    have R2 := R'.grow (O.same sm)
    have rx : Rp K (hidL H'' as') x d := rv _ (O.ext (O.trans R2.hs R2.h0)) fun bb o hb1 hb2 => by
      rw [hidL_ne fun hm => ?_]
      · exact hb2
      · obtain ⟨⟨ys, z⟩, _⟩ := R'.own bb hm
        rw [z] at hb1
        cases hb1
    refine c.go x d (hidL H'' as') H'' σ' _ ps hidL_le rx h1 fun qs uq => ?_
    refine b.go Hr B (O.okr oB okS) okR _ _ H'' ⟨setE ρ2 ps, _, as', H0', R2.setM uq, h2, fun ρ3 σ3 H3 as3 H03 h3 R3 => ⟨_, as3, H03, R3.forget fs, h3⟩, fun d v H3 h3 o3 r3 f3 => hr d v H3 h3 (O.trans oB o3) r3 f3, fun ρ3 σ3 H3 as3 H03 h3 R3 => hn ρ3 σ3 H3 as3 H03 h3 (up R3), fun ρ3 σ3 H3 as3 H03 h3 R3 => ⟨_, as3, H03, R3.forget fs, h3⟩, exAt he oB⟩
  · rw [List.drop_length] at h'
    obtain ⟨ρ2, w, h'⟩ := h'
    exact hn ρ2 σ' H' as' H0' h' (up (R'.weak w))
theorem RelB.hgrow {Hr Hs H H' H00 : Hp} {σ : L2.St} {ρ : En} {as : List Addr} (R : RelB K O Hr Hs H σ ρ as H00) (o : O.r (hidL H as) H') (hn : ∀ a ∈ as, H' a = none) : RelB K O Hr Hs (unh H' H as) σ ρ as H00 := by
  have e := unh_hid (H := H) hn
  refine ⟨R.len, R.hr, R.hs, by rw [e]; exact O.trans R.h0 o, fun a ha => by rw [unh_in ha]; exact R.own a ha, fun i s hs => ?_, R.inj⟩
  have h := R.sl i s hs
  rw [e]
  cases hx : σ[i]?.join with
  | none =>
    rw [hx] at h
    cases s <;> first | exact True.intro | exact h.elim
  | some v =>
    rw [hx] at h
    cases s with
    | no => exact True.intro
    | fz d => exact h
    | lt d => exact Rp.mono (O.ext o) h
    | fr n d => exact ⟨h.1.mono (O.ext o), h.2.mono (O.ext o)⟩
    | fs n d => exact ⟨h.1.mono (O.ext o), h.2.mono (O.ext o)⟩
    | ow ds =>
      obtain ⟨a, vs, h1, h2, h3, h4⟩ := h
      exact ⟨a, vs, h1, h2, by rw [unh_in h2]; exact h3, h4.mono (O.ext o)⟩
theorem RelB.lsts {Hr Hs H H00 : Hp} {σ : L2.St} {ρ : En} {as : List Addr} (R : RelB K O Hr Hs H σ ρ as H00) : Lsts H as := fun a ha => (R.own a ha).1
def vForH (fs : List Nat) (ug : D → Option (List (Nat × D))) (fi : En → MM (List D)) (ft : Ks → En → Prop) : Ks → En → Prop := fun k ρ => fi (hidE ρ) (fun ds => forV fs ug ft k ds (wipeE (mrk ρ) fs)) k.ex
def vForR (fs : List Nat) (ug : D → Option (List (Nat × D))) (fi : En → MM (List D)) (ft : Ks → En → Prop) : Ks → En → Prop := fun k ρ => fi (vis ρ) (fun ds => forV fs ug ft k ds (wipeE ρ fs)) k.ex
theorem RelB.rebase {Hr Hs H H00 : Hp} {σ : L2.St} {ρ : En} {as : List Addr} (R : RelB K O Hr Hs H σ ρ as H00) : RelB K O Hr H00 H σ ρ as H00 := ⟨R.len, O.trans R.hr R.hs, O.refl _, R.h0, R.own, R.sl, R.inj⟩
instance [a : CVI K O E wi fi] [c : CVG K g ug] [b : CVS K O E nr t ft] {fs : List Nat} : CVS K O E nr (tForF fs (iHids wi) g t) (vForH fs ug fi ft) := ⟨fun Hr Hs okS okR D σ H ⟨ρ, k, as, H00, R, h, hn, hr, hb, hc, he⟩ => by
  refine ⟨as, R.lsts, a.go H00 (O.okr R.hs okS) σ (hidL H as) _ ⟨hidE ρ, R.hid, R.h0, _, k.ex, h, fun ds J H1 hd o1 ok hn1 => ?_, exAt he (O.trans R.hs R.h0)⟩⟩
  have R1 := (R.hgrow o1 hn1).mark.rebase
  rw [unh_hid hn1] at R1
  exact for_go (fs := fs) okS okR R.hr H1 ok (O.trans (O.trans R.hs R.h0) o1) (R1.forget fs) hd hn hr he⟩
instance [a : CVR K O E wi fi] [c : CVG K g ug] [b : CVS K O E nr t ft] {fs : List Nat} : CVS K O E nr (tForF fs wi g t) (vForR fs ug fi ft) := ⟨fun Hr Hs okS okR D σ H ⟨ρ, k, as, H00, R, h, hn, hr, hb, hc, he⟩ => by
  refine a.go H00 (O.okr R.hs okS) σ H _ ⟨vis ρ, R.vis, R.full, _, k.ex, h, fun ds J H1 hd o1 ok => ?_, exAt he R.oS⟩
  exact for_go (fs := fs) okS okR R.hr H00 (ok H00) R.hs ((R.grow o1).rebase.forget fs) hd hn hr he⟩
def vPar (i j : Nat) (fA : En → MM (List D)) : Ks → En → Prop := fun k ρ => fA (vis ρ) (fun ds => ∃ x y, ds = [x, y] ∧ (anyOw ρ = true → flatD x = true ∧ flatD y = true) ∧ k.nx ((ρ.set i (toL x)).set j (toL y))) k.ex
instance {i j : Nat} [a : CVA K O E 0 tA N fA] : CVS K O E nr (tPar i j tA) (vPar i j fA) := ⟨fun Hr Hs okS okR D σ H ⟨ρ, k, as, H00, R, h, hn, hr, hb, hc, he⟩ =>
  a.go H00 (O.okr R.hs okS) σ H _ ⟨vis ρ, R.vis, R.full, _, k.ex, h, fun ds vs H1 hd _ o1 rA _ => by
    obtain ⟨x, y, rfl, hf, hx⟩ := hd
    cases rA with
    | @cons v1 _ _ _ r1 rA =>
      cases rA with
      | @cons v2 _ _ _ r2 rA =>
        cases rA
        refine ⟨v1, v2, rfl, ?_⟩
        have R1 := R.grow o1
        cases ha : anyOw ρ with
        | true =>
          obtain ⟨f1, f2⟩ := hf ha
          exact hn _ _ H1 as H00 hx ((R1.set1 (toL_B (flat_hid (fun a z => (R1.own a z).1) r1 f1)) toL_ow).set1 (toL_B (flat_hid (fun a z => (R1.own a z).1) r2 f2)) toL_ow)
        | false =>
          have R2 := R1.bare ha
          exact hn _ _ H1 [] H00 hx ((R2.set1 (toL_B (by rw [hidL_nil]; exact r1)) toL_ow).set1 (toL_B (by rw [hidL_nil]; exact r2)) toL_ow), exAt he R.oS⟩⟩
structure ErC (K : PySem.W.Frag) (C : Addr) : Prop where
  oex : OexC K C
  no : PySem.W.findIn K (.ref C) "word" = some none
def tRz (K : PySem.W.Frag) (E : XK) (C : Addr) (name : Str) : TS := fun _ σ H => ErC K C ∧ Rz E C name H
theorem ps_raise0 {X : Cx} {E : XK} {C : Addr} {name : Str} {e : Expr} {pos : Pos} (K : PySem.W.Frag) (hc : X.calm = true) (tk : Takes X (fun cls d _ H => E cls d H)) (he : PMk X e (tMkO C (sp_init0 K name) [] tNil)) : PS X (.Raise (some e) none pos) (tRz K E C name) :=
  ⟨fun pins s σ H D I h => (ps_raise hc tk he).run pins s σ H D I (g_raise0 (W := fun cls d _ H => E cls d H) h.1.oex h.1.no h.2)⟩
def vRz (K : PySem.W.Frag) (C : Addr) (name : Str) : Ks → En → Prop := fun k ρ => ErC K C ∧ k.ex ⟨C, [("word", .str name)]⟩
instance {C : Addr} {name : Str} : CVS K O E nr (tRz K E C name) (vRz K C name) := ⟨fun Hr Hs okS okR D σ H ⟨ρ, k, as, H00, R, h, hn, hr, hb, hc, he⟩ => ⟨h.1, fun d H' s n x => he _ h.2 d H' (O.trans R.oS (O.same s)) x⟩⟩
def visF1 : Sl → Sl
  | .ow ds => .lt (.lst ds)
  | .fs _ d => .lt d
  | .fr _ d => .lt d
  | s => s
def visF (ρ : En) : En := ρ.map visF1
theorem RelB.visF {Hr Hs H H00 : Hp} {σ : L2.St} {ρ : En} {as : List Addr} (R : RelB K O Hr Hs H σ ρ as H00) (Hx : Hp) : RelS K Hx H σ (visF ρ) := by
  obtain ⟨h1, h2⟩ := R.vis
  refine ⟨by rw [Wk.visF, List.length_map]; exact R.len, fun i s hs => ?_⟩
  unfold Wk.visF at hs
  rw [List.getElem?_map] at hs
  obtain ⟨t, ht, rfl⟩ := Option.map_eq_some_iff.mp hs
  have h3 := h2 i (vis1 t) (by unfold Wk.vis; rw [List.getElem?_map, ht]; rfl)
  cases hx : σ[i]?.join with
  | none =>
    rw [hx] at h3
    cases t <;> first | exact True.intro | exact h3.elim
  | some v =>
    rw [hx] at h3
    cases t with
    | no => exact True.intro
    | fz d => exact h3
    | lt d => exact h3
    | fr n d => exact h3.1
    | fs n d => exact h3
    | ow ds => exact h3.1
def tAsgO (te : TE) (i : Nat) : TS := tAsg te (gName i)
def vAsgO (i : Nat) (fe : En → M) : Ks → En → Prop := fun k ρ => fe (visF ρ) (fun d => ∃ ds, d = .lst ds ∧ flatA ds = true ∧ k.nx (ρ.set i (.ow ds))) k.ex
theorem ps_own {X : Cx} {st : Stmt} {i : Nat} (h : PS X st (tAsg te (gName i))) : PS X st (tAsgO te i) := h
theorem RelB.add {Hr Hs H H1 H00 : Hp} {σ : L2.St} {ρ : En} {as : List Addr} {a : Addr} {vs : List V} {ds : List D} {i : Nat} (R : RelB K O Hr Hs H σ ρ as H00) (o : O.r H H1) (na : NL H a) (ea : H1 a = some (.lst vs)) (r : RpA K H1 vs ds) (hf : flatA ds = true) : RelB K O Hr Hs H1 (σ.set i (some (.ref a))) (ρ.set i (.ow ds)) (a :: as) H00 := by
  have R1 := R.grow o
  have nas : a ∉ as := fun z => by
    obtain ⟨⟨ys, q⟩, _⟩ := R.own a z
    exact na ys q
  have o0 : O.r (hidL H as) (hidL H1 as) := ord_hidL o fun b hb => (R.own b hb).1
  have n0 : NL (hidL H as) a := fun xs z => na xs (by rw [hidL_ne nas] at z; exact z)
  have e1 : hidL H1 as a = some (.lst vs) := by rw [hidL_ne nas]; exact ea
  have o1 : O.r (hidL H as) (hidL H1 (a :: as)) := by
    rw [hidL_cons]
    exact O.drop o0 n0 e1
  have own2 : ∀ b ∈ a :: as, (∃ vs, H1 b = some (.lst vs)) ∧ NL H00 b := fun b hb => by
    rcases List.mem_cons.mp hb with e | hb
    · subst e
      exact ⟨⟨vs, ea⟩, na.back (O.ext R.full)⟩
    · exact R1.own b hb
  refine ⟨by rw [List.length_set, List.length_set]; exact R.len, R.hr, R.hs, O.trans R.h0 o1, own2, fun j t ht => ?_, fun j k ds' es b hj hk ej ek => ?_⟩
  · by_cases hj : i = j
    · subst hj
      have hl : i < ρ.length := by
        have := (List.getElem?_eq_some_iff.mp ht).1
        rwa [List.length_set] at this
      rw [List.getElem?_set_self hl] at ht
      cases ht
      rw [List.getElem?_set_self (by rw [R.len]; exact hl)]
      exact ⟨a, vs, rfl, List.mem_cons_self, ea, flat_hidA (fun b hb => (own2 b hb).1) r hf⟩
    · rw [List.getElem?_set_ne hj] at ht ⊢
      have h := R.sl j t ht
      cases hx : σ[j]?.join with
      | none =>
        rw [hx] at h
        cases t <;> first | exact True.intro | exact h.elim
      | some v =>
        rw [hx] at h
        cases t with
        | no => exact True.intro
        | fz d => exact h
        | lt d => exact Rp.mono (O.ext o1) h
        | fr n d => exact ⟨h.1.mono (O.ext o1), h.2.mono (O.ext o1)⟩
        | fs n d => exact ⟨h.1.mono (O.ext o1), h.2.mono (O.ext o1)⟩
        | ow es =>
          obtain ⟨b, ws, h1, h2, h3, h4⟩ := h
          exact ⟨b, ws, h1, List.mem_cons_of_mem _ h2, hp_monoL (O.ext o) h3, h4.mono (O.ext o1)⟩
  · have addr : ∀ {m : Nat} {es : List D}, i ≠ m → (ρ.set i (.ow ds))[m]? = some (.ow es) → (σ.set i (some (.ref a)))[m]?.join = some (.ref b) → b ≠ a := fun {m es} hm h1 h2 z => by
      rw [List.getElem?_set_ne hm] at h1 h2
      have h := R.sl m _ h1
      rw [h2] at h
      obtain ⟨b', ws, e1, e2, e3, _⟩ := h
      cases e1
      subst z
      exact nas e2
    by_cases hij : i = j
    · by_cases hik : i = k
      · rw [← hij, ← hik]
      · exfalso
        subst hij
        have hl : i < ρ.length := by
          have := (List.getElem?_eq_some_iff.mp hj).1
          rwa [List.length_set] at this
        rw [List.getElem?_set_self (by rw [R.len]; exact hl)] at ej
        have : b = a := by cases ej; rfl
        exact addr hik hk ek this
    · by_cases hik : i = k
      · exfalso
        subst hik
        have hl : i < ρ.length := by
          have := (List.getElem?_eq_some_iff.mp hk).1
          rwa [List.length_set] at this
        rw [List.getElem?_set_self (by rw [R.len]; exact hl)] at ek
        have : b = a := by cases ek; rfl
        exact addr hij hj ej this
      · rw [List.getElem?_set_ne hij] at hj ej
        rw [List.getElem?_set_ne hik] at hk ek
        exact R.inj j k ds' es b hj hk ej ek
instance {i : Nat} [a : CV K O E 1 te fe] : CVS K O E nr (tAsgO te i) (vAsgO i fe) := ⟨fun Hr Hs okS okR D σ H ⟨ρ, k, as, H00, R, h, hn, hr, hb, hc, he⟩ =>
  a.go H (O.okr R.oS okS) σ H _ ⟨visF ρ, R.visF H, O.refl H, _, k.ex, h, fun d v H1 hd o1 rv fv => by
    obtain ⟨ds, rfl, hf, hx⟩ := hd
    obtain ⟨p, vs, rfl, h1, h2, _⟩ := fv ds rfl
    obtain ⟨vs', h3, h4⟩ := rv.sq
    rw [h2] at h3
    cases h3
    exact hn _ _ H1 (p :: as) H00 hx (R.add o1 h1 h2 h4 hf), exAt he R.oS⟩⟩
theorem RelB.mutO {Hr Hs H H00 : Hp} {σ : L2.St} {ρ : En} {as : List Addr} {a : Addr} {i : Nat} {vs' : List V} {ds ds' : List D} (R : RelB K O Hr Hs H σ ρ as H00) (hi : ρ[i]? = some (.ow ds)) (hs : σ[i]?.join = some (.ref a)) (r : RpA K (hidL H as) vs' ds') : RelB K O Hr Hs (upd H a (.lst vs')) σ (ρ.set i (.ow ds')) as H00 := by
  have h := R.sl i _ hi
  rw [hs] at h
  obtain ⟨a', ws, e1, hm, e3, _⟩ := h
  cases e1
  have eh : hidL (upd H a (.lst vs')) as = hidL H as := by
    funext b
    by_cases hb : b ∈ as
    · rw [hidL_in hb, hidL_in hb]
    · have hba : b ≠ a := fun z => hb (by rw [z]; exact hm)
      rw [hidL_ne hb, hidL_ne hb, upd_ne hba]
  refine ⟨by rw [List.length_set]; exact R.len, R.hr, R.hs, by rw [eh]; exact R.h0, fun b hb => ?_, fun j t ht => ?_, fun j k ds1 es b hj hk ej ek => ?_⟩
  · by_cases e : b = a
    · subst e
      exact ⟨⟨vs', upd_same⟩, (R.own b hb).2⟩
    · rw [upd_ne e]
      exact R.own b hb
  · rw [eh]
    by_cases hj : i = j
    · subst hj
      have hl : i < ρ.length := by
        have := (List.getElem?_eq_some_iff.mp ht).1
        rwa [List.length_set] at this
      rw [List.getElem?_set_self hl] at ht
      cases ht
      rw [hs]
      exact ⟨a, vs', rfl, hm, upd_same, r⟩
    · rw [List.getElem?_set_ne hj] at ht
      have h := R.sl j t ht
      cases hx : σ[j]?.join with
      | none =>
        rw [hx] at h
        cases t <;> first | exact True.intro | exact h.elim
      | some v =>
        rw [hx] at h
        cases t with
        | no => exact True.intro
        | fz d => exact h
        | lt d => exact h
        | fr n d => exact h
        | fs n d => exact h
        | ow es =>
          obtain ⟨b, ws, h1, h2, h3, h4⟩ := h
          have hb : b ≠ a := fun z => by
            subst z
            rw [h1] at hx
            exact hj (R.inj i j ds es b hi ht hs hx)
          exact ⟨b, ws, h1, h2, by rw [upd_ne hb]; exact h3, h4⟩
  · have back : ∀ {m : Nat} {es : List D}, (ρ.set i (.ow ds'))[m]? = some (.ow es) → ∃ es', ρ[m]? = some (.ow es') := fun {m es} h1 => by
      by_cases hm : i = m
      · subst hm
        exact ⟨ds, hi⟩
      · rw [List.getElem?_set_ne hm] at h1
        exact ⟨es, h1⟩
    obtain ⟨d1, h1⟩ := back hj
    obtain ⟨d2, h2⟩ := back hk
    exact R.inj j k d1 d2 b h1 h2 ej ek
theorem RelB.owAt {Hr Hs H H00 : Hp} {σ : L2.St} {ρ : En} {as : List Addr} {i : Nat} {ds : List D} (R : RelB K O Hr Hs H σ ρ as H00) (hi : ρ[i]? = some (.ow ds)) : ∃ a vs, σ[i]? = some (some (.ref a)) ∧ σ[i]?.join = some (.ref a) ∧ a ∈ as ∧ H a = some (.lst vs) ∧ RpA K (hidL H as) vs ds := by
  have h := R.sl i _ hi
  cases hx : σ[i]?.join with
  | none => rw [hx] at h; exact h.elim
  | some v =>
    rw [hx] at h
    obtain ⟨a, vs, rfl, h1, h2, h3⟩ := h
    refine ⟨a, vs, ?_, rfl, h1, h2, h3⟩
    cases hz : σ[i]? with
    | none => rw [hz] at hx; cases hx
    | some o =>
      rw [hz] at hx
      have : o = some (.ref a) := hx
      rw [this]
def vAsgH (ug : D → Option (List (Nat × D))) (fe : En → M) : Ks → En → Prop := fun k ρ => fe (hidE ρ) (fun d => ∃ ps, ug d = some ps ∧ k.nx (setE ρ ps)) k.ex
instance [a : CV K O E 0 te fe] [c : CVG K g ug] : CVS K O E nr (tHidS (tAsg te g)) (vAsgH ug fe) := ⟨fun Hr Hs okS okR D σ H ⟨ρ, k, as, H00, R, h, hn, hr, hb, hc, he⟩ =>
  ⟨as, R.lsts, a.go H00 (O.okr R.hs okS) σ (hidL H as) _ ⟨hidE ρ, R.hid, R.h0, _, k.ex, h, fun d v H1 hd o1 rv _ => by
    obtain ⟨ps, hp, hx⟩ := hd
    exact c.go v d H1 H1 σ _ ps (L2.Same.refl _) rv hp fun qs up hn1 => hn _ _ _ as H00 hx (by
      have R1 := R.hgrow o1 hn1
      have up' : Upd K (hidL (unh H1 H as) as) qs ps := by rw [unh_hid hn1]; exact up
      exact R1.setM up'), exAt he (O.trans R.hs R.h0)⟩⟩⟩
def vApp (i : Nat) (fe : En → M) : Ks → En → Prop := fun k ρ => ∃ ds, ρ[i]? = some (.ow ds) ∧ fe (hidE ρ) (fun d => ds.length < 100000 ∧ k.nx (ρ.set i (.ow (ds ++ [d])))) k.ex
instance {i : Nat} [a : CV K O E 0 te fe] : CVS K O E nr (tDrop (tBM K "list" rAppend (tVar i) (tCons (tHids te) tNil))) (vApp i fe) := ⟨fun Hr Hs okS okR D σ H ⟨ρ, k, as, H00, R, ⟨ds, hi, h⟩, hn, hr, hb, hc, he⟩ => by
  obtain ⟨p, vs, e1, e2, hm, hp, r⟩ := R.owAt hi
  refine ⟨.ref p, e1, .inl ⟨rfl, vs, .inl (.inl hp)⟩, as, R.lsts, a.go H00 (O.okr R.hs okS) σ (hidL H as) _ ⟨hidE ρ, R.hid, R.h0, _, k.ex, h, fun d v H1 hd o1 rv _ hn1 => ?_, exAt he (O.trans R.hs R.h0)⟩⟩
  have R1 := R.hgrow o1 hn1
  have h2 : unh H1 H as p = some (.lst vs) := by rw [unh_in hm]; exact hp
  refine ⟨p, vs, v, rfl, rfl, h2, by rw [r.len]; exact Nat.lt_of_lt_of_le hd.1 (by decide), hn _ _ _ as H00 hd.2 (R1.mutO hi e2 ?_)⟩
  rw [unh_hid hn1]
  exact (r.mono (O.ext o1)).snoc rv⟩
def vAppV (i : Nat) (fe : En → M) : Ks → En → Prop := fun k ρ => ∃ ds, ρ[i]? = some (.ow ds) ∧ fe (vis ρ) (fun d => flatD d = true ∧ ds.length < 100000 ∧ k.nx (ρ.set i (.ow (ds ++ [d])))) k.ex
instance (priority := low) {i : Nat} [a : CV K O E 0 te fe] : CVS K O E nr (tDrop (tBM K "list" rAppend (tVar i) (tCons te tNil))) (vAppV i fe) := ⟨fun Hr Hs okS okR D σ H ⟨ρ, k, as, H00, R, ⟨ds, hi, h⟩, hn, hr, hb, hc, he⟩ => by
  obtain ⟨p, vs, e1, e2, hm, hp, r⟩ := R.owAt hi
  refine ⟨.ref p, e1, .inl ⟨rfl, vs, .inl (.inl hp)⟩, a.go H00 (O.okr R.hs okS) σ H _ ⟨vis ρ, R.vis, R.full, _, k.ex, h, fun d v H1 hd o1 rv _ => ?_, exAt he R.oS⟩⟩
  have R1 := R.grow o1
  refine ⟨p, vs, v, rfl, rfl, hp_monoL (O.ext o1) hp, by rw [r.len]; exact Nat.lt_of_lt_of_le hd.2.1 (by decide), hn _ _ _ as H00 hd.2.2 (R1.mutO hi e2 ?_)⟩
  exact (r.mono (O.ext (ord_hidL o1 fun a z => (R.own a z).1))).snoc (flat_hid (fun a z => (R1.own a z).1) rv hd.1)⟩
def vExt (i : Nat) (fe : En → M) : Ks → En → Prop := fun k ρ => ∃ ds, ρ[i]? = some (.ow ds) ∧ fe (hidE ρ) (fun d => ∃ es, d = .lst es ∧ ds.length + es.length ≤ 100000 ∧ k.nx (ρ.set i (.ow (ds ++ es)))) k.ex
instance {i : Nat} [a : CV K O E 0 te fe] : CVS K O E nr (tDrop (tBM K "list" rExtend (tVar i) (tCons (tHids te) tNil))) (vExt i fe) := ⟨fun Hr Hs okS okR D σ H ⟨ρ, k, as, H00, R, ⟨ds, hi, h⟩, hn, hr, hb, hc, he⟩ => by
  obtain ⟨p, vs, e1, e2, hm, hp, r⟩ := R.owAt hi
  refine ⟨.ref p, e1, .inl ⟨rfl, vs, .inl (.inl hp)⟩, as, R.lsts, a.go H00 (O.okr R.hs okS) σ (hidL H as) _ ⟨hidE ρ, R.hid, R.h0, _, k.ex, h, fun d v H1 hd o1 rv _ hn1 => ?_, exAt he (O.trans R.hs R.h0)⟩⟩
  obtain ⟨es, rfl, hl, hx⟩ := hd
  have R1 := R.hgrow o1 hn1
  have h2 : unh H1 H as p = some (.lst vs) := by rw [unh_in hm]; exact hp
  cases rv with
  | @lst b ws _ q1 q2 =>
    have nb : b ∉ as := fun z => by
      have := hn1 b z
      rw [q1] at this
      cases this
    refine ⟨p, b, vs, ws, rfl, rfl, h2, by rw [unh_ne nb]; exact q1, by rw [r.len, q2.len]; exact le_line hl, hn _ _ _ as H00 hx (R1.mutO hi e2 ?_)⟩
    rw [unh_hid hn1]
    exact (r.mono (O.ext o1)).app q2⟩
end
end Wk

set_option Elab.async false
set_option linter.all false
set_option maxRecDepth 100000
set_option maxHeartbeats 4000000
namespace Wk
open PySem PySem.Spec PyProof.Rows L2
section
variable {prog : Program} {w : World} {A : Around} {E : Value → Shared → Prop} {s : Shared}
end
section
variable {K : PySem.W.Frag} {O : Ord} {E : XK} {n N : Nat} {te : TE} {f : En → M} {fA : En → MM (List D)} {tA : TA}
end
section
variable {X : Cx}
variable {K : PySem.W.Frag} {O : Ord} {E : XK} {n : Nat} {te : TE} {f : En → M}
theorem ps_setLcV {i : Nat} {y : Str} {py : Pos} {elt tg iter : Expr} {ifs : List Expr} {scope : Scope} {own : List (Str × Nat)} {pos spos : Pos} {wi : TI} {g : TG} {tt : TT} {te : TE} (vs : List Nat) (hc : X.calm = true) (hN : X.N.Nodup) (hy : X.N[i]? = some y) (hyl : X.env.scope.names.lookup y = some .local)
    (hsw : swapsWith (.ListComp elt [⟨tg, iter, ifs, 0⟩] scope pos) (some (.Name y py)) spos.line X.env = pure true) (hi : PI X tg iter wi) (ok : BlkOk X.N X.env.scope scope own)
    (hg : ∀ (s : Shared) (H : Hp) (C : Addr) (cl : List (Str × Addr)) (fp : List Addr), PG (X.blk s H scope (compEnvC scope cl C X.env) fp) tg g) (ht : ∀ (s : Shared) (H : Hp) (C : Addr) (cl : List (Str × Addr)) (fp : List Addr), PTs (X.blk s H scope (compEnvC scope cl C X.env) fp) ifs tt)
    (he : ∀ (s : Shared) (H : Hp) (C : Addr) (cl : List (Str × Addr)) (fp : List Addr), PE (X.blk s H scope (compEnvC scope cl C X.env) fp) elt te) (hv : own.map (·.2) = vs := by rfl) (hs : ∀ x, foldedSetIterable iter X.env x = pure x := by intro _; rfl) :
    PS X (.Assign [.Name y py] (.ListComp elt [⟨tg, iter, ifs, 0⟩] scope pos) spos) (tAsg (tLc wi g tt te vs) (gName i)) := by
  subst hv
  exact ps_setLc hc hN hy hyl hsw hi ok hg ht he hs
end
end Wk

set_option Elab.async false
set_option linter.all false
set_option maxRecDepth 100000
set_option maxHeartbeats 4000000
namespace Wk
open PySem PySem.Spec PyProof.Rows L2
section
variable {K : PySem.W.Frag} {O : Ord} {E : XK} {n : Nat} {wi wi1 : TI} {g g1 : TG} {te : TE} {tt : TT} {vs vs1 : List Nat} {fi fi1 : En → MM (List D)} {u u1 : D → Option (List (Nat × D))} {fe : En → M} {ft : En → MM Bool}
end
end Wk

set_option Elab.async false
set_option linter.all false
set_option maxRecDepth 100000
set_option maxHeartbeats 4000000
namespace Wk
open PySem PySem.Spec PyProof.Rows L2
section
variable {P : Program} {w : World} {K : PySem.W.Frag} {mg : Str → Option Value} {base : Heap} {E : XK} {nr N : Nat} {m : List D → M}
def startE (n : Nat) (ds : List D) : En := ds.map Sl.fz ++ List.replicate (n - ds.length) .no
theorem relB_start {O : Ord} {H : Hp} {vs : List V} {ds : List D} {Ns : List Str} (r : RpA K H vs ds) : RelB K O H H H (L2.start Ns vs) (startE Ns.length ds) [] H := by
  refine ⟨?_, O.refl _, O.refl _, by rw [hidL_nil]; exact O.refl _, fun a ha => (by cases ha), fun i s hs => ?_, fun i j ds' es a hi => ?_⟩
  · unfold L2.start startE
    simp [r.len]
  · rw [hidL_nil]
    unfold startE at hs
    by_cases hi : i < ds.length
    · rw [List.getElem?_append_left (by simpa using hi), List.getElem?_map] at hs
      obtain ⟨d, hd, rfl⟩ := Option.map_eq_some_iff.mp hs
      obtain ⟨v, hv, rv⟩ := r.get2 hd
      unfold L2.start
      rw [List.getElem?_append_left (by rw [List.length_map, r.len]; exact hi), List.getElem?_map, hv]
      exact rv
    · rw [List.getElem?_append_right (by simpa using hi), List.getElem?_replicate] at hs
      obtain ⟨_, e⟩ := if_some hs
      cases e
      generalize (L2.start Ns vs)[i]?.join = z
      cases z <;> exact True.intro
  · exfalso
    unfold startE at hi
    by_cases hx : i < ds.length
    · rw [List.getElem?_append_left (by simpa using hx), List.getElem?_map] at hi
      obtain ⟨d, hd, e⟩ := Option.map_eq_some_iff.mp hi
      cases e
    · rw [List.getElem?_append_right (by simpa using hx), List.getElem?_replicate] at hi
      obtain ⟨_, e⟩ := if_some hi
      cases e
def kOf (Q0 : D → Prop) (E0 : Er → Prop) : Ks := ⟨fun _ => Q0 .non, Q0, fun _ => False, fun _ => False, E0⟩
theorem fnV {O : Ord} {t : TS} {f : Ks → En → Prop} {H : Hp} {vs : List V} {Q : VK} {Ns : List Str} (hO : O = OSame) [c : CVS K O E nr t f] (hs : spV K nr N m vs H Q E) (h : ∀ ds Q0 E0, ds.length = N → m ds Q0 E0 → f (kOf Q0 E0) (startE Ns.length ds)) : t { nx := fun _ H' => Q .non H', rt := Q } (L2.start Ns vs) H := by
  subst hO
  obtain ⟨ds, hl, r, Q0, E0, hm, hq, he⟩ := hs
  exact c.go H H True.intro True.intro _ _ H ⟨startE Ns.length ds, kOf Q0 E0, [], H, relB_start r, h ds Q0 E0 hl hm, fun ρ' σ' H' as' H0' hn R => hq .non .non H' hn R.oS .non (FrD.nl fun _ z => by cases z), fun d v H' hd o rv fv => hq d v H' hd o rv fv, fun _ _ _ _ _ z => z.elim, fun _ _ _ _ _ z => z.elim, he⟩
theorem spV_len {ps : List Str} (e : N = ps.length) : ∀ vs H Q E, spV K nr N m vs H Q E → vs.length = ps.length := fun vs H Q E ⟨ds, hl, r, _⟩ => by rw [r.len, hl, e]
end
end Wk

set_option Elab.async false
set_option linter.all false
set_option maxRecDepth 100000
set_option maxHeartbeats 4000000
namespace Wk
open PySem PySem.Spec PyProof.Rows L2 LamX
theorem codeO_lst {c : Addr} {q : Str} {xs : List V} : CodeO c q ≠ .lst xs := fun z => by unfold CodeO at z; cases z
theorem tab_hid {L : List (Addr × Str)} {H : Hp} {a : Addr} {xs : List V} (h : Tabs L H) (e : H a = some (.lst xs)) : Tabs L (hid H a) := fun p hp => by
  obtain ⟨ps, h1, h2, h3⟩ := h p hp
  have hP : p.1 ≠ a := fun z => by
    rw [z, e] at h1
    cases h1
  refine ⟨ps, by rw [hid_ne hP]; exact h1, h2, fun pos cv hc => ?_⟩
  obtain ⟨c, h4, h5⟩ := h3 pos cv hc
  refine ⟨c, h4, ?_⟩
  rw [hid_ne fun z => ?_]
  · exact h5
  · rw [z, e] at h5
    exact codeO_lst (Option.some.inj h5).symm
theorem tab_upd {L : List (Addr × Str)} {H : Hp} {a : Addr} {xs ys : List V} (h : Tabs L H) (e : H a = some (.lst xs)) : Tabs L (upd H a (.lst ys)) := fun p hp => by
  obtain ⟨ps, h1, h2, h3⟩ := h p hp
  have hP : p.1 ≠ a := fun z => by
    rw [z, e] at h1
    cases h1
  refine ⟨ps, by rw [upd_ne hP]; exact h1, h2, fun pos cv hc => ?_⟩
  obtain ⟨c, h4, h5⟩ := h3 pos cv hc
  refine ⟨c, h4, ?_⟩
  rw [upd_ne fun z => ?_]
  · exact h5
  · rw [z, e] at h5
    exact codeO_lst (Option.some.inj h5).symm
theorem tab_updD {L : List (Addr × Str)} {H : Hp} {a : Addr} {xs ys : List (Key × V)} (h : Tabs L H) (e : H a = some (.dK xs)) : Tabs L (upd H a (.dK ys)) := fun p hp => by
  obtain ⟨ps, h1, h2, h3⟩ := h p hp
  have hP : p.1 ≠ a := fun z => by
    rw [z, e] at h1
    cases h1
  refine ⟨ps, by rw [upd_ne hP]; exact h1, h2, fun pos cv hc => ?_⟩
  obtain ⟨c, h4, h5⟩ := h3 pos cv hc
  refine ⟨c, h4, ?_⟩
  rw [upd_ne fun z => ?_]
  · exact h5
  · rw [z, e] at h5
    unfold CodeO at h5
    cases h5
def OTab (L : List (Addr × Str)) : Ord where
  r := fun H H' => ExtN H H' ∧ (Tabs L H → Tabs L H')
  ok := Tabs L
  okr := fun h t => h.2 t
  refl := fun H => ⟨ExtN.refl H, id⟩
  trans := fun a b => ⟨ExtN.trans a.1 b.1, fun t => b.2 (a.2 t)⟩
  same := fun s => ⟨ExtN.of s, fun t => t.ext s⟩
  ext := fun h => h.1
  hid := fun {H H' a xs} h e => by
    refine ⟨fun b o hb n => ?_, fun t => tab_hid (h.2 (t.ext hid_le)) (h.1 _ _ e fun _ z => nomatch z)⟩
    by_cases z : b = a
    · rw [z, hid_same] at hb
      cases hb
    · rw [hid_ne z] at hb ⊢
      exact h.1 b o hb n
  mutl := fun {H H' a xs ys} h na e => by
    refine ⟨fun b o hb n => ?_, fun t => tab_upd (h.2 t) e⟩
    rw [upd_ne fun z => ?_]
    · exact h.1 b o hb n
    · subst z
      have := h.1 b o hb n
      rw [e] at this
      cases this
      exact na _ hb
  drop := fun {H H' a xs} h na e => by
    refine ⟨fun b o hb n => ?_, fun t => tab_hid (h.2 t) e⟩
    rw [hid_ne fun z => ?_]
    · exact h.1 b o hb n
    · subst z
      have := h.1 b o hb n
      rw [e] at this
      cases this
      exact na _ hb
  mutd := fun {H H' a xs ys} h na e => by
    refine ⟨fun b o hb n => ?_, fun t => tab_updD (h.2 t) e⟩
    rw [upd_ne fun z => ?_]
    · exact h.1 b o hb n
    · subst z
      rw [na] at hb
      cases hb
section
variable {K : PySem.W.Frag} {E : XK} {nr : Nat}
theorem lawV {L : List (Addr × Str)} {t : TS} {f : Ks → En → Prop} {H : Hp} {a : Addr} {ns : List Int} {Q : VK} {Ns : List Str} [c : CVS K (OTab L) E 0 t f] (hT : Tabs L H) (hS : SqL K H a (ns.map V.int)) (hl : ns.length ≤ 63) (q : ∀ H', Q (.bl true) H')
    (h : f ⟨fun _ => False, fun d => d = .bl true, fun _ => False, fun _ => False, fun _ => False⟩ (startE Ns.length [.scr])) : t { nx := fun _ H' => Q .non H', rt := Q } (L2.start Ns [.ref a]) H := by
  refine c.go H H hT hT _ _ H ⟨startE Ns.length [.scr], _, [], H, relB_start (.cons (.scr hS hl) .nil), h, fun ρ' σ' H' as' H0' hn R => hn.elim, fun d v H' hd o rv fv => ?_, fun _ _ _ _ _ z => z.elim, fun _ _ _ _ _ z => z.elim, fun _ z => z.elim⟩
  subst hd
  cases rv
  exact q H'
end
end Wk

set_option Elab.async false
set_option linter.all false
set_option maxRecDepth 100000
set_option maxHeartbeats 4000000
namespace Wk
open PySem PySem.Spec PyProof.Rows L2
class SlD (s : Sl) (d : outParam D) : Prop where
  v : rdS (some (vis1 s)) = ret d
instance {d : D} : SlD (.fz d) d := ⟨rfl⟩
instance {d : D} : SlD (.lt d) d := ⟨rfl⟩
instance {ds : List D} : SlD (.ow ds) (.lst ds) := ⟨rfl⟩
theorem rdS_toL {d : D} : rdS (some (toL d)) = ret d := by cases d <;> rfl
theorem hid1_toL {d : D} : hid1 (toL d) = toL d := by cases d <;> rfl
theorem visF1_toL {d : D} : visF1 (toL d) = toL d := by cases d <;> rfl
class SlH (s : Sl) (d : outParam D) : Prop where
  p : rdS (some s) = ret d
  h : rdS (some (hid1 s)) = ret d
  f : rdS (some (visF1 s)) = ret d
instance {d : D} : SlH (.fz d) d := ⟨rfl, rfl, rfl⟩
instance {d : D} : SlH (.lt d) d := ⟨rfl, rfl, rfl⟩
instance {n : Nat} {d : D} : SlH (.fr n d) d := ⟨rfl, rfl, rfl⟩
instance (priority := low) {d : D} : SlH (toL d) d := ⟨rdS_toL, by rw [hid1_toL, rdS_toL], by rw [visF1_toL, rdS_toL]⟩
class RdC (ρ : En) (i : Nat) (d : outParam D) : Prop where
  eq : rd ρ i = ret d
instance {s : Sl} {ρ : En} {d : D} [h : SlD s d] : RdC (vis (s :: ρ)) 0 d := ⟨h.v⟩
instance {s : Sl} {ρ : En} {i : Nat} {d : D} [h : RdC (vis ρ) i d] : RdC (vis (s :: ρ)) (i + 1) d := ⟨h.eq⟩
instance {s : Sl} {ρ : En} {d : D} [h : SlH s d] : RdC (visF (s :: ρ)) 0 d := ⟨h.f⟩
instance {s : Sl} {ρ : En} {d : D} [h : SlH s d] : RdC (s :: ρ) 0 d := ⟨h.p⟩
instance {s : Sl} {ρ : En} {i : Nat} {d : D} [h : RdC ρ i d] : RdC (s :: ρ) (i + 1) d := ⟨h.eq⟩
class ToL (d : D) (s : outParam Sl) : Prop where
  eq : toL d = s
instance {b : Int} : ToL (.int b) (.fz (.int b)) := ⟨rfl⟩
instance {b : Str} : ToL (.str b) (.fz (.str b)) := ⟨rfl⟩
instance {b : List D} : ToL (.lst b) (.lt (.lst b)) := ⟨rfl⟩
instance {b : List D} : ToL (.tup b) (.lt (.tup b)) := ⟨rfl⟩
instance : ToL .drw (.lt .drw) := ⟨rfl⟩
instance {c : List (Str × Addr)} {q : Str} {le : Expr} : ToL (.lam c q le) (.lt (.lam c q le)) := ⟨rfl⟩
instance (priority := low) {d : D} : ToL d (toL d) := ⟨rfl⟩
class SetC (ρ : En) (i : Nat) (s : Sl) (ρ' : outParam En) : Prop where
  eq : ρ.set i s = ρ'
instance {ρ : En} {x y : Sl} : SetC (y :: ρ) 0 x (x :: ρ) := ⟨rfl⟩
instance {ρ ρ' : En} {i : Nat} {x y : Sl} [h : SetC ρ i x ρ'] : SetC (y :: ρ) (i + 1) x (y :: ρ') := ⟨by rw [List.set_cons_succ, h.eq]⟩
class NfE (ρ : En) (ρ' : outParam En) : Prop where
  eq : ρ = ρ'
instance {s : Sl} {ρ : En} : NfE (s :: ρ) (s :: ρ) := ⟨rfl⟩
instance {ρ ρ1 ρ2 : En} {i : Nat} {s : Sl} [a : NfE ρ ρ1] [b : SetC ρ1 i s ρ2] : NfE (List.set ρ i s) ρ2 := ⟨by rw [a.eq, b.eq]⟩
instance {ρ ρ1 : En} [a : NfE ρ ρ1] : NfE (setE ρ []) ρ1 := ⟨a.eq⟩
instance {ρ ρ1 ρ2 ρ3 : En} {i : Nat} {d : D} {s : Sl} {ps : List (Nat × D)} [a : NfE ρ ρ1] [t : ToL d s] [b : SetC ρ1 i s ρ2] [c : NfE (setE ρ2 ps) ρ3] : NfE (setE ρ ((i, d) :: ps)) ρ3 := ⟨by
  show setE (ρ.set i (toL d)) ps = ρ3
  rw [a.eq, t.eq, b.eq, c.eq]⟩
instance {ρ ρ1 : En} [a : NfE ρ ρ1] : NfE (wipeE ρ []) ρ1 := ⟨a.eq⟩
instance {ρ ρ1 ρ2 : En} {i : Nat} {vs : List Nat} [a : NfE (wipeE ρ vs) ρ1] [b : SetC ρ1 i .no ρ2] : NfE (wipeE ρ (i :: vs)) ρ2 := ⟨by
  show (wipeE ρ vs).set i .no = ρ2
  rw [a.eq, b.eq]⟩
class MapC (f : Sl → Sl) (s : Sl) (s' : outParam Sl) : Prop where
  eq : f s = s'
instance : MapC vis1 .no .no := ⟨rfl⟩
instance {d : D} : MapC vis1 (.fz d) (.fz d) := ⟨rfl⟩
instance {d : D} : MapC vis1 (.lt d) (.lt d) := ⟨rfl⟩
instance {ds : List D} : MapC vis1 (.ow ds) (.fr 1 (.lst ds)) := ⟨rfl⟩
instance : MapC hid1 .no .no := ⟨rfl⟩
instance {d : D} : MapC hid1 (.fz d) (.fz d) := ⟨rfl⟩
instance {d : D} : MapC hid1 (.lt d) (.lt d) := ⟨rfl⟩
instance {ds : List D} : MapC hid1 (.ow ds) .no := ⟨rfl⟩
instance : MapC mrk1 .no .no := ⟨rfl⟩
instance {d : D} : MapC mrk1 (.fz d) (.fz d) := ⟨rfl⟩
instance {d : D} : MapC mrk1 (.lt d) (.fz d) := ⟨rfl⟩
instance {ds : List D} : MapC mrk1 (.ow ds) (.ow ds) := ⟨rfl⟩
instance : MapC visR1 .no .no := ⟨rfl⟩
instance {d : D} : MapC visR1 (.fz d) (.fz d) := ⟨rfl⟩
instance {d : D} : MapC visR1 (.lt d) (.lt d) := ⟨rfl⟩
instance {ds : List D} : MapC visR1 (.ow ds) (.fr 1 (.lst ds)) := ⟨rfl⟩
instance : NfE (visR []) [] := ⟨rfl⟩
instance {s s' : Sl} {ρ ρ' : En} [a : MapC visR1 s s'] [b : NfE (visR ρ) ρ'] : NfE (visR (s :: ρ)) (s' :: ρ') := ⟨by rw [← a.eq, ← b.eq]; rfl⟩
instance : NfE (vis []) [] := ⟨rfl⟩
instance : NfE (hidE []) [] := ⟨rfl⟩
instance : NfE (mrk []) [] := ⟨rfl⟩
instance {s s' : Sl} {ρ ρ' : En} [a : MapC vis1 s s'] [b : NfE (vis ρ) ρ'] : NfE (vis (s :: ρ)) (s' :: ρ') := ⟨by rw [← a.eq, ← b.eq]; rfl⟩
instance {s s' : Sl} {ρ ρ' : En} [a : MapC hid1 s s'] [b : NfE (hidE ρ) ρ'] : NfE (hidE (s :: ρ)) (s' :: ρ') := ⟨by rw [← a.eq, ← b.eq]; rfl⟩
instance {s s' : Sl} {ρ ρ' : En} [a : MapC mrk1 s s'] [b : NfE (mrk ρ) ρ'] : NfE (mrk (s :: ρ)) (s' :: ρ') := ⟨by rw [← a.eq, ← b.eq]; rfl⟩
class NoOw (ρ : En) : Prop where
  eq : anyOw ρ = false
instance : NoOw [] := ⟨rfl⟩
instance {ρ : En} [h : NoOw ρ] : NoOw (.no :: ρ) := ⟨h.eq⟩
instance {d : D} {ρ : En} [h : NoOw ρ] : NoOw (.fz d :: ρ) := ⟨h.eq⟩
instance {d : D} {ρ : En} [h : NoOw ρ] : NoOw (.lt d :: ρ) := ⟨h.eq⟩
class FlatC (d : D) : Prop where
  eq : flatD d = true
class FlatCs (ds : List D) : Prop where
  eq : flatA ds = true
instance : FlatCs [] := ⟨rfl⟩
instance {d : D} {ds : List D} [a : FlatC d] [b : FlatCs ds] : FlatCs (d :: ds) := ⟨by rw [flatA, a.eq, b.eq]; rfl⟩
class LenC (ds : List D) (n : Nat) : Prop where
  eq : ds.length = n
instance : LenC [] 0 := ⟨rfl⟩
instance {d : D} {ds : List D} {n : Nat} [h : LenC ds n] : LenC (d :: ds) (n + 1) := ⟨by rw [List.length_cons, h.eq]⟩
class UC (u : D → Option (List (Nat × D))) (d : D) (ps : outParam (List (Nat × D))) : Prop where
  eq : u d = some ps
class UCs (u : List D → Option (List (Nat × D))) (ds : List D) (ps : outParam (List (Nat × D))) : Prop where
  eq : u ds = some ps
instance {i : Nat} {d : D} : UC (fun d => some [(i, d)]) d [(i, d)] := ⟨rfl⟩
instance : UCs uNil [] [] := ⟨rfl⟩
instance {i : Nat} {us : List D → Option (List (Nat × D))} {d : D} {ds : List D} {ps : List (Nat × D)} [b : UCs us ds ps] : UCs (uCons (fun d => some [(i, d)]) us) (d :: ds) ((i, d) :: ps) := ⟨by
  show (some [(i, d)]).bind (fun a => (us ds).map fun b => a ++ b) = _
  rw [b.eq]
  rfl⟩
instance {n : Nat} {us : List D → Option (List (Nat × D))} {ds : List D} {ps : List (Nat × D)} [l : LenC ds n] [b : UCs us ds ps] : UC (uTup n us) (.tup ds) ps := ⟨by
  show (if ds.length = n then us ds else none) = _
  rw [if_pos l.eq, b.eq]⟩
instance {n : Nat} {us : List D → Option (List (Nat × D))} {ds : List D} {ps : List (Nat × D)} [l : LenC ds n] [b : UCs us ds ps] : UC (uSqs n us) (.tup ds) ps := ⟨by
  show (if ds.length = n then us ds else none) = _
  rw [if_pos l.eq, b.eq]⟩
class InC (i : Nat) (vs : List Nat) : Prop where
  eq : vs.contains i = true
instance {i : Nat} {vs : List Nat} : InC i (i :: vs) := ⟨by simp⟩
instance (priority := low) {i j : Nat} {vs : List Nat} [h : InC i vs] : InC i (j :: vs) := ⟨by rw [List.contains_cons, h.eq, Bool.or_true]⟩
class SubC (vs : List Nat) (ps : List (Nat × D)) : Prop where
  eq : subV vs ps = true
instance {vs : List Nat} : SubC vs [] := ⟨rfl⟩
instance {vs : List Nat} {i : Nat} {d : D} {ps : List (Nat × D)} [a : InC i vs] [b : SubC vs ps] : SubC vs ((i, d) :: ps) := ⟨by
  show (vs.contains i && subV vs ps) = true
  rw [a.eq, b.eq]
  rfl⟩
section
variable {α β : Type} {Q : α → Prop} {E E' : Er → Prop} {Qd : D → Prop} {Qb : Bool → Prop} {Ql : List D → Prop} {Qo : Option Int → Prop} {ρ ρ' ρ1 : En} {i : Nat} {d x y : D} {ds es : List D} {a b k j : Int} {m m' : MM α}
instance {m : MM β} {f : β → MM α} : Stp (bnd m f Q E) (m (fun d => f d Q E) E) := ⟨id⟩
instance {z : α} : Stp (ret z Q E) (Q z) := ⟨id⟩
instance {p : Prop} : Stp (need p m Q E) (p ∧ m Q E) := ⟨id⟩
instance [h : RdC ρ i d] : Stp (rd ρ i Qd E) (Qd d) := ⟨fun q => by rw [h.eq]; exact q⟩
instance {b : Bool} : Stp (asB (.bl b) Qb E) (Qb b) := ⟨id⟩
instance (priority := high) {b : Bool} : Stp (asB (.bl (true != b)) Qb E) (Qb (!b)) := ⟨fun h => by rw [← bne_t] at h; exact h⟩
instance (priority := high) {b : Bool} : Stp (asB (.bl (false != b)) Qb E) (Qb b) := ⟨fun h => by rw [← bne_f b] at h; exact h⟩
instance {b : Bool} {k : Bool → M} : Stp (isB k (.bl b) Qd E) (k b Qd E) := ⟨id⟩
instance {c : Bool} : Stp ((if c = true then m else m') Q E) (if c = true then m Q E else m' Q E) := ⟨fun h => by cases c <;> exact h⟩
instance {h : Int → Int → Int} : Stp (opII h (.int a) (.int b) Qd E) (Qd (.int (h a b))) := ⟨id⟩
instance {h : Int → Int → Bool} : Stp (opIB h (.int a) (.int b) Qd E) (Qd (.bl (h a b))) := ⟨id⟩
instance {C : Int → Int → Prop} {h : Int → Int → Int} : Stp (opIIc C h (.int a) (.int b) Qd E) (C a b ∧ Qd (.int (h a b))) := ⟨id⟩
instance {h : Int → Int} : Stp (unI h (.int a) Qd E) (Qd (.int (h a))) := ⟨id⟩
instance : Stp (addM (.int a) (.int b) Qd E) (Qd (.int (a + b))) := ⟨id⟩
instance : Stp (addM (.lst ds) (.lst es) Qd E) (ds.length + es.length ≤ 100000 ∧ Qd (.lst (ds ++ es))) := ⟨id⟩
instance : Stp (addM (.tup ds) (.tup es) Qd E) (ds.length + es.length ≤ 100000 ∧ Qd (.tup (ds ++ es))) := ⟨id⟩
instance : Stp (mulM (.int a) (.int b) Qd E) (CMul a b ∧ Qd (.int (a * b))) := ⟨id⟩
instance : Stp (mulM (.lst ds) (.int k) Qd E) ((k ≤ 100000 ∧ -100000 ≤ k ∧ ds.length * k.toNat ≤ 100000) ∧ Qd (.lst (List.replicate k.toNat ds).flatten)) := ⟨id⟩
instance : Stp (eqM false (.int a) (.int b) Qd E) (Qd (.bl (decide (a = b)))) := ⟨fun h => by show Qd (.bl (false != decide (a = b))); rw [bne_f]; exact h⟩
instance : Stp (eqM true (.int a) (.int b) Qd E) (Qd (.bl (!decide (a = b)))) := ⟨fun h => by show Qd (.bl (true != decide (a = b))); rw [bne_t]; exact h⟩
instance {a b : Str} : Stp (eqM false (.str a) (.str b) Qd E) (Qd (.bl (decide (a = b)))) := ⟨fun h => by show Qd (.bl (false != decide (a = b))); rw [bne_f]; exact h⟩
instance {a b : Str} : Stp (eqM true (.str a) (.str b) Qd E) (Qd (.bl (!decide (a = b)))) := ⟨fun h => by show Qd (.bl (true != decide (a = b))); rw [bne_t]; exact h⟩
instance : Stp (lenM [.lst ds] Qd E) (Qd (.int ds.length)) := ⟨id⟩
instance (priority := high) {ns : List Int} : Stp (lenM [.tup (List.map D.int ns)] Qd E) (Qd (.int ns.length)) := ⟨fun h => by show Qd (.int (List.map D.int ns).length); rw [List.length_map]; exact h⟩
instance : Stp (lenM [.tup ds] Qd E) (Qd (.int ds.length)) := ⟨id⟩
instance : Stp (listM [.tup ds] Qd E) (Qd (.lst ds)) := ⟨id⟩
instance : Stp (tupM [.lst ds] Qd E) (Qd (.tup ds)) := ⟨id⟩
instance {k : List Bool → M} {ns : List Bool} : Stp (blsM k [.lst (List.map D.bl ns)] Qd E) (k ns Qd E) := ⟨fun h => ⟨ns, rfl, h⟩⟩
instance {b : Bool} : Stp (intM [.bl b] Qd E) (Qd (.int (if b then 1 else 0))) := ⟨id⟩
instance : Stp (rowM (.lst ds) Ql E) (Ql ds) := ⟨id⟩
instance : Stp (rowM (.tup ds) Ql E) (Ql ds) := ⟨id⟩
instance : Stp (rng1M [.int j] Ql E) ((-(2 ^ 62) ≤ j ∧ j < 2 ^ 62) ∧ Ql (rngD 0 j.toNat)) := ⟨id⟩
instance {s : Bool} : Stp (zipM s [x, y] Ql E) (rowM x (fun a => rowM y (fun b => a.length = b.length ∧ Ql (zip2 a b)) E) E) := ⟨id⟩
instance : Stp (asI (.int a) Qo E) (Qo (some a)) := ⟨id⟩
instance {lo hi : Option Int} : Stp (slM (.tup ds) lo hi Qd E) (Qd (.tup (cutD ds lo hi))) := ⟨id⟩
instance {N : Nat} {g : List D → M} : Stp (lenIs N g ds Qd E) (ds.length = N ∧ g ds Qd E) := ⟨id⟩
instance {vs : List Nat} {u : D → Option (List (Nat × D))} {fe : En → M} {ps : List (Nat × D)} [a : UC u x ps] [s : SubC vs ps] [n : NfE (setE (wipeE ρ vs) ps) ρ'] : Stp (elV vs u fe ρ x Qd E) (fe ρ' Qd fun _ => False) := ⟨fun h => ⟨ps, a.eq, s.eq, by rw [n.eq]; exact h⟩⟩
instance {vs : List Nat} {u : D → Option (List (Nat × D))} {ft : En → MM Bool} {ps : List (Nat × D)} [a : UC u x ps] [s : SubC vs ps] [n : NfE (setE (wipeE ρ vs) ps) ρ'] : Stp (elT vs u ft ρ x Qb E) (ft ρ' Qb fun _ => False) := ⟨fun h => ⟨ps, a.eq, s.eq, by rw [n.eq]; exact h⟩⟩
instance {vs : List Nat} {fi : En → MM (List D)} {u : D → Option (List (Nat × D))} {fe : En → M} [n : NfE ρ ρ'] : Stp (lcM vs fi u fe ρ Qd E) (fi ρ' (fun xs => xs.length ≤ 100000 ∧ mapV (elV vs u fe ρ') xs (fun ys => Qd (.lst ys)) E) E) := ⟨fun h => by rw [n.eq]; exact h⟩
instance {vs : List Nat} {fi : En → MM (List D)} {u : D → Option (List (Nat × D))} {ft : En → MM Bool} {fe : En → M} [n : NfE ρ ρ'] : Stp (lcF vs fi u ft fe ρ Qd E) (fi ρ' (fun xs => xs.length ≤ 100000 ∧ filV (elT vs u ft ρ') (elV vs u fe ρ') xs (fun ys => Qd (.lst ys)) E) E) := ⟨fun h => by rw [n.eq]; exact h⟩
end
class AppC (xs ys : List D) (zs : outParam (List D)) : Prop where
  eq : xs ++ ys = zs
instance {ys : List D} : AppC [] ys ys := ⟨rfl⟩
instance {x : D} {xs ys zs : List D} [h : AppC xs ys zs] : AppC (x :: xs) ys (x :: zs) := ⟨by rw [List.cons_append, h.eq]⟩
section
variable {N : Nat} {g : List D → M} {Q : D → Prop} {E : Er → Prop}
instance (priority := high) {xs ys zs : List D} [h : AppC xs ys zs] : Stp (lenIs N g (xs ++ ys) Q E) (lenIs N g zs Q E) := ⟨fun q => by rw [h.eq]; exact q⟩
end
section
variable {nx bk ct : En → Prop} {rt : D → Prop} {ex : Er → Prop} {ρ ρ' ρ1 : En} {ft fu : Ks → En → Prop} {fe fj : En → M} {fb : En → MM Bool} {i j : Nat} {d : D} {s : Sl} {u : D → Option (List (Nat × D))} {fi fA : En → MM (List D)} {fs : List Nat}
theorem vSeqN (h : ∀ N : En → Prop, (∀ ρ, fu ⟨nx, rt, bk, ct, ex⟩ ρ → N ρ) → ft ⟨N, rt, bk, ct, ex⟩ ρ) : vSeq ft fu ⟨nx, rt, bk, ct, ex⟩ ρ := h _ fun _ q => q
theorem vUseN {N M : En → Prop} [n : NfE ρ ρ'] (h : ∀ ρ, M ρ → N ρ) (q : M ρ') : N ρ := by
  rw [n.eq]
  exact h ρ' q
def AsgN (u : D → Option (List (Nat × D))) (ρ : En) (d : D) (nx : En → Prop) : Prop := (anyOw ρ = true → flatD d = true) ∧ ∃ ps, u d = some ps ∧ nx (setE ρ ps)
instance : Stp (vAsg u fe ⟨nx, rt, bk, ct, ex⟩ ρ) (fe (vis ρ) (fun d => AsgN u ρ d nx) ex) := ⟨id⟩
instance asgN_no {ps : List (Nat × D)} [a : NoOw ρ] [b : UC u d ps] [n : NfE (setE ρ ps) ρ'] : Stp (AsgN u ρ d nx) (nx ρ') := ⟨fun h => ⟨fun z => absurd (a.eq.symm.trans z) (by decide), ps, b.eq, by rw [n.eq]; exact h⟩⟩
def AsgH (u : D → Option (List (Nat × D))) (ρ : En) (d : D) (nx : En → Prop) : Prop := ∃ ps, u d = some ps ∧ nx (setE ρ ps)
instance {ρ1 : En} [n : NfE (hidE ρ) ρ1] : Stp (vAsgH u fe ⟨nx, rt, bk, ct, ex⟩ ρ) (fe ρ1 (fun d => AsgH u ρ d nx) ex) := ⟨fun h => by show fe (hidE ρ) (fun d => AsgH u ρ d nx) ex; rw [n.eq]; exact h⟩
instance {ps : List (Nat × D)} [b : UC u d ps] [n : NfE (setE ρ ps) ρ'] : Stp (AsgH u ρ d nx) (nx ρ') := ⟨fun h => ⟨ps, b.eq, by rw [n.eq]; exact h⟩⟩
instance : Stp (vNext ⟨nx, rt, bk, ct, ex⟩ ρ) (nx ρ) := ⟨id⟩
instance : Stp (vIf fb ft fu ⟨nx, rt, bk, ct, ex⟩ ρ) (fb (vis ρ) (fun c => if c = true then ft ⟨nx, rt, bk, ct, ex⟩ ρ else fu ⟨nx, rt, bk, ct, ex⟩ ρ) ex) := ⟨id⟩
instance [n : NfE (visR ρ) ρ'] : Stp (vRet fe ⟨nx, rt, bk, ct, ex⟩ ρ) (fe ρ' rt ex) := ⟨fun h => by show fe (visR ρ) rt ex; rw [n.eq]; exact h⟩
instance : Stp (vDrop fe ⟨nx, rt, bk, ct, ex⟩ ρ) (fe (vis ρ) (fun _ => nx ρ) ex) := ⟨id⟩
def ParN (i j : Nat) (ρ : En) (ds : List D) (nx : En → Prop) : Prop := ∃ x y, ds = [x, y] ∧ (anyOw ρ = true → flatD x = true ∧ flatD y = true) ∧ nx ((ρ.set i (toL x)).set j (toL y))
instance : Stp (vPar i j fA ⟨nx, rt, bk, ct, ex⟩ ρ) (fA (vis ρ) (fun ds => ParN i j ρ ds nx) ex) := ⟨id⟩
instance {x y : D} {sx sy : Sl} [a : NoOw ρ] [t : ToL x sx] [t' : ToL y sy] [n : NfE (List.set (List.set ρ i sx) j sy) ρ'] : Stp (ParN i j ρ [x, y] nx) (nx ρ') := ⟨fun h => ⟨x, y, rfl, fun z => absurd (a.eq.symm.trans z) (by decide), by rw [t.eq, t'.eq, n.eq]; exact h⟩⟩
instance {K : PySem.W.Frag} {C : Addr} {name : Str} : Stp (vRz K C name ⟨nx, rt, bk, ct, ex⟩ ρ) (ErC K C ∧ ex ⟨C, [("word", .str name)]⟩) := ⟨id⟩
def AsgO (i : Nat) (ρ : En) (d : D) (nx : En → Prop) : Prop := ∃ ds, d = .lst ds ∧ flatA ds = true ∧ nx (ρ.set i (.ow ds))
instance : Stp (vAsgO i fe ⟨nx, rt, bk, ct, ex⟩ ρ) (fe (visF ρ) (fun d => AsgO i ρ d nx) ex) := ⟨id⟩
instance (priority := high) {ds : List D} [f : FlatCs ds] [n : NfE (List.set ρ i (.ow ds)) ρ'] : Stp (AsgO i ρ (.lst ds) nx) (nx ρ') := ⟨fun h => ⟨ds, rfl, f.eq, by rw [n.eq]; exact h⟩⟩
class OwC (ρ : En) (i : Nat) (ds : outParam (List D)) : Prop where
  eq : ρ[i]? = some (.ow ds)
instance {ds : List D} : OwC (.ow ds :: ρ) 0 ds := ⟨rfl⟩
instance {ds : List D} [h : OwC ρ i ds] : OwC (s :: ρ) (i + 1) ds := ⟨by rw [List.getElem?_cons_succ]; exact h.eq⟩
def AppO (i : Nat) (ρ : En) (ds : List D) (d : D) (nx : En → Prop) : Prop := ds.length < 100000 ∧ nx (ρ.set i (.ow (ds ++ [d])))
instance {ds : List D} [o : OwC ρ i ds] [n : NfE (hidE ρ) ρ1] : Stp (vApp i fe ⟨nx, rt, bk, ct, ex⟩ ρ) (fe ρ1 (fun d => AppO i ρ ds d nx) ex) := ⟨fun h => ⟨ds, o.eq, by rw [n.eq]; exact h⟩⟩
instance {ds : List D} [n : NfE (List.set ρ i (.ow (ds ++ [d]))) ρ'] : Stp (AppO i ρ ds d nx) (ds.length < 100000 ∧ nx ρ') := ⟨fun h => ⟨h.1, by rw [n.eq]; exact h.2⟩⟩
instance {ds : List D} [o : OwC ρ i ds] : Stp (vAppV i fe ⟨nx, rt, bk, ct, ex⟩ ρ) (fe (vis ρ) (fun d => flatD d = true ∧ AppO i ρ ds d nx) ex) := ⟨fun h => ⟨ds, o.eq, h⟩⟩
def ExtO (i : Nat) (ρ : En) (ds : List D) (d : D) (nx : En → Prop) : Prop := ∃ es, d = .lst es ∧ ds.length + es.length ≤ 100000 ∧ nx (ρ.set i (.ow (ds ++ es)))
instance {ds : List D} [o : OwC ρ i ds] [n : NfE (hidE ρ) ρ1] : Stp (vExt i fe ⟨nx, rt, bk, ct, ex⟩ ρ) (fe ρ1 (fun d => ExtO i ρ ds d nx) ex) := ⟨fun h => ⟨ds, o.eq, by rw [n.eq]; exact h⟩⟩
instance {ds es : List D} [n : NfE (List.set ρ i (.ow (ds ++ es))) ρ'] : Stp (ExtO i ρ ds (.lst es) nx) (ds.length + es.length ≤ 100000 ∧ nx ρ') := ⟨fun h => ⟨es, rfl, h.1, by rw [n.eq]; exact h.2⟩⟩
instance [n : NfE (hidE ρ) ρ1] [n2 : NfE (wipeE (mrk ρ) fs) ρ'] : Stp (vForH fs u fi ft ⟨nx, rt, bk, ct, ex⟩ ρ) (fi ρ1 (fun ds => forV fs u ft ⟨nx, rt, bk, ct, ex⟩ ds ρ') ex) := ⟨fun h => by show fi (hidE ρ) (fun ds => forV fs u ft ⟨nx, rt, bk, ct, ex⟩ ds (wipeE (mrk ρ) fs)) ex; rw [n.eq, n2.eq]; exact h⟩
instance [n2 : NfE (wipeE ρ fs) ρ'] : Stp (vForR fs u fi ft ⟨nx, rt, bk, ct, ex⟩ ρ) (fi (vis ρ) (fun ds => forV fs u ft ⟨nx, rt, bk, ct, ex⟩ ds ρ') ex) := ⟨fun h => by show fi (vis ρ) (fun ds => forV fs u ft ⟨nx, rt, bk, ct, ex⟩ ds (wipeE ρ fs)) ex; rw [n2.eq]; exact h⟩
theorem forV_at (P : Nat → En → Prop) {ds : List D} (h0 : ∃ ρ2, WkE ρ ρ2 ∧ P 0 ρ2) (hs : ∀ (i : Nat) d ρ N, ds[i]? = some d → P i ρ → (∀ ρ', (∃ ρ2, WkE (wipeE ρ' fs) ρ2 ∧ P (i + 1) ρ2) → N ρ') → ∃ ps, u d = some ps ∧ ft ⟨N, rt, nx, N, ex⟩ (setE ρ ps)) (hd : ∀ ρ, P ds.length ρ → nx ρ) : forV fs u ft ⟨nx, rt, bk, ct, ex⟩ ds ρ := by
  induction ds generalizing P ρ with
  | nil =>
    obtain ⟨ρ2, w, h⟩ := h0
    exact ⟨ρ2, w, hd ρ2 h⟩
  | cons x xs ih =>
    obtain ⟨ρ2, w, h⟩ := h0
    exact ⟨ρ2, w, hs 0 x ρ2 _ rfl h fun ρ' h' => ih (fun i ρ => P (i + 1) ρ) h' (fun i d ρ N hi hP hN => hs (i + 1) d ρ N (by simpa using hi) hP hN) fun ρ hP => hd ρ (by simpa using hP)⟩
end
section
variable {E : Er → Prop} {Ql : List D → Prop} {f : D → M} {t : D → MM Bool}
theorem mapV_det (h : D → D) {xs : List D} (hx : ∀ x ∈ xs, ∀ Q' : D → Prop, Q' (h x) → f x Q' E) (q : Ql (xs.map h)) : mapV f xs Ql E := by
  induction xs generalizing Ql with
  | nil => exact q
  | cons x xs ih => exact hx x List.mem_cons_self _ (ih (fun y hy => hx y (List.mem_cons_of_mem _ hy)) q)
theorem mapV_rel (R : D → D → Prop) {xs : List D} (hx : ∀ x ∈ xs, ∀ Q' : D → Prop, (∀ y, R x y → Q' y) → f x Q' E) (q : ∀ ys, ys.length = xs.length → (∀ (i : Nat) x y, xs[i]? = some x → ys[i]? = some y → R x y) → Ql ys) : mapV f xs Ql E := by
  induction xs generalizing Ql with
  | nil => exact q [] rfl fun i x y h => by simp at h
  | cons x xs ih =>
    refine hx x List.mem_cons_self _ fun y hy => ih (fun z hz => hx z (List.mem_cons_of_mem _ hz)) fun ys hl hR => q (y :: ys) (by simp [hl]) fun i a b ha hb => ?_
    cases i with
    | zero => simp at ha hb; subst ha; subst hb; exact hy
    | succ i => exact hR i a b (by simpa using ha) (by simpa using hb)
theorem mapV_IB (h : Int → Bool) {ns : List Int} (hx : ∀ n ∈ ns, ∀ Q' : D → Prop, Q' (.bl (h n)) → f (.int n) Q' E) (q : Ql ((ns.map h).map D.bl)) : mapV f (List.map D.int ns) Ql E := by
  induction ns generalizing Ql with
  | nil => exact q
  | cons x xs ih => exact hx x List.mem_cons_self _ (ih (fun y hy => hx y (List.mem_cons_of_mem _ hy)) q)
theorem dI_len (ns : List Int) : (List.map D.int ns).length = ns.length := List.length_map ..
theorem rngD_len (lo : Int) (n : Nat) : (rngD lo n).length = n := by unfold rngD; rw [List.length_map, List.length_range]
theorem zip2_len {a b : List D} : (zip2 a b).length = min a.length b.length := List.length_zipWith
end
instance {ds : List D} {i : Int} {Q : D → Prop} {E : Er → Prop} : Stp (ixM (.lst ds) (.int i) Q E) (∃ d, atI ds i = some d ∧ Q d) := ⟨id⟩
instance {ds : List D} {i : Int} {Q : D → Prop} {E : Er → Prop} : Stp (ixM (.tup ds) (.int i) Q E) (∃ d, atI ds i = some d ∧ Q d) := ⟨id⟩
end Wk
namespace Wk
open PySem PySem.Spec PyProof.Rows L2
theorem atD_ok {xs : List D} {r : Int} (h0 : 0 ≤ r) (h1 : r < xs.length) : ∃ (i : Nat) (v : D), xs[i]? = some v ∧ atI xs r = some v := by
  have hi : r.toNat < xs.length := by omega
  refine ⟨r.toNat, xs[r.toNat], List.getElem?_eq_getElem hi, ?_⟩
  have h := atI_nat (xs := xs) (j := r.toNat) (v := xs[r.toNat]) (List.getElem?_eq_getElem hi)
  rw [Int.toNat_of_nonneg h0] at h
  exact h
end Wk
namespace Wk
open PySem PySem.Spec PyProof.Rows L2
theorem inD_ints (n : Int) (ns : List Int) : inD (.int n) (dI ns) = decide (n ∈ ns) := by
  unfold inD
  rw [show (dI ns).map vOf = ns.map V.int by simp [dI, List.map_map, Function.comp_def, vOf]]
  exact inV_int ns
end Wk
namespace Wk
open PySem PySem.Spec PyProof.Rows L2
theorem inM_T {neg : Bool} {n : Int} {ds : List D} {Q : D → Prop} {E : Er → Prop} (ns : List Int) (h : ds = dI ns) (q : Q (.bl (neg != decide (n ∈ ns)))) : inM neg (.int n) (.tup ds) Q E := by
  subst h
  refine ⟨⟨rfl, ?_⟩, ?_⟩
  · simp [dI, sclD]
  · show Q (.bl (neg != inD (.int n) (dI ns)))
    rw [inD_ints]
    exact q
end Wk
namespace Wk
open PySem PySem.Spec PyProof.Rows L2
section
variable {nx bk ct : En → Prop} {rt : D → Prop} {ex : Er → Prop} {ρ ρ' ρ1 ρ2 : En} {ft : Ks → En → Prop} {fb : En → MM Bool} {u : D → Option (List (Nat × D))} {fs : List Nat}
def turnV (u : D → Option (List (Nat × D))) (d : D) (ρ : En) (F : En → Prop) : Prop := ∃ ps, u d = some ps ∧ F (setE ρ ps)
instance {d : D} {F : En → Prop} {ps : List (Nat × D)} [a : UC u d ps] [n : NfE (setE ρ ps) ρ'] : Stp (turnV u d ρ F) (F ρ') := ⟨fun h => ⟨ps, a.eq, by rw [n.eq]; exact h⟩⟩
theorem useE {N : En → Prop} (h : ∀ ρ', WkE (wipeE ρ' fs) ρ2 → N ρ') [n : NfE (wipeE ρ fs) ρ1] (e : WkE ρ1 ρ2) : N ρ := h ρ (by rw [n.eq]; exact e)
theorem useP {N : En → Prop} {P : En → Prop} (h : ∀ ρ', (∃ ρ2, WkE (wipeE ρ' fs) ρ2 ∧ P ρ2) → N ρ') [n : NfE (wipeE ρ fs) ρ1] (e : WkE ρ1 ρ2) (p : P ρ2) : N ρ := h ρ ⟨ρ2, by rw [n.eq]; exact e, p⟩
theorem forAW (emb : Nat → En) {ds : List D} (e0 : WkE ρ (emb 0)) (hs : ∀ (i : Nat) d N, ds[i]? = some d → (∀ ρ', WkE (wipeE ρ' fs) (emb (i + 1)) → N ρ') → turnV u d (emb i) (ft ⟨N, rt, nx, N, ex⟩)) (hd : nx (emb ds.length)) : forV fs u ft ⟨nx, rt, bk, ct, ex⟩ ds ρ :=
  forV_at (fun i ρ => ρ = emb i) ⟨_, e0, rfl⟩ (fun i d ρ N hi hP hN => by
    subst hP
    exact hs i d N hi fun ρ' e => hN ρ' ⟨_, e, rfl⟩) fun ρ hP => by
    subst hP
    exact hd
theorem forA (emb : Nat → En) {ds : List D} (e0 : ρ = emb 0) (hs : ∀ (i : Nat) d N, ds[i]? = some d → (∀ ρ', WkE (wipeE ρ' fs) (emb (i + 1)) → N ρ') → turnV u d (emb i) (ft ⟨N, rt, nx, N, ex⟩)) (hd : nx (emb ds.length)) : forV fs u ft ⟨nx, rt, bk, ct, ex⟩ ds ρ := forAW emb (.of_eq e0) hs hd
theorem forP (P : Nat → En → Prop) {ds : List D} (h0 : P 0 ρ) (hs : ∀ (i : Nat) d ρ N, ds[i]? = some d → P i ρ → (∀ ρ', (∃ ρ2, WkE (wipeE ρ' fs) ρ2 ∧ P (i + 1) ρ2) → N ρ') → turnV u d ρ (ft ⟨N, rt, nx, N, ex⟩)) (hd : ∀ ρ, P ds.length ρ → nx ρ) : forV fs u ft ⟨nx, rt, bk, ct, ex⟩ ds ρ := forV_at P ⟨_, .refl _, h0⟩ hs hd
theorem rng_get {lo : Int} {n i : Nat} {d : D} (hi : (rngD lo n)[i]? = some d) : i < n ∧ d = .int (lo + (i : Int)) := by
  have hl := (List.getElem?_eq_some_iff.mp hi).1
  rw [rngD_len] at hl
  unfold rngD at hi
  rw [List.getElem?_map, List.getElem?_range hl] at hi
  cases hi
  exact ⟨hl, rfl⟩
theorem forRW (emb : Nat → En) {lo : Int} {n : Nat} (e0 : WkE ρ (emb 0)) (hs : ∀ (i : Nat) N, i < n → (∀ ρ', WkE (wipeE ρ' fs) (emb (i + 1)) → N ρ') → turnV u (.int (lo + (i : Int))) (emb i) (ft ⟨N, rt, nx, N, ex⟩)) (hd : nx (emb n)) : forV fs u ft ⟨nx, rt, bk, ct, ex⟩ (rngD lo n) ρ :=
  forAW emb e0 (fun i d N hi hN => by
    obtain ⟨hl, rfl⟩ := rng_get hi
    exact hs i N hl hN) (by rw [rngD_len]; exact hd)
theorem forR (emb : Nat → En) {lo : Int} {n : Nat} (e0 : ρ = emb 0) (hs : ∀ (i : Nat) N, i < n → (∀ ρ', WkE (wipeE ρ' fs) (emb (i + 1)) → N ρ') → turnV u (.int (lo + (i : Int))) (emb i) (ft ⟨N, rt, nx, N, ex⟩)) (hd : nx (emb n)) : forV fs u ft ⟨nx, rt, bk, ct, ex⟩ (rngD lo n) ρ := forRW emb (.of_eq e0) hs hd
theorem forRP (P : Nat → En → Prop) {lo : Int} {n : Nat} (h0 : P 0 ρ) (hs : ∀ (i : Nat) ρ N, i < n → P i ρ → (∀ ρ', (∃ ρ2, WkE (wipeE ρ' fs) ρ2 ∧ P (i + 1) ρ2) → N ρ') → turnV u (.int (lo + (i : Int))) ρ (ft ⟨N, rt, nx, N, ex⟩)) (hd : ∀ ρ, P n ρ → nx ρ) : forV fs u ft ⟨nx, rt, bk, ct, ex⟩ (rngD lo n) ρ :=
  forP P h0 (fun i d ρ N hi hP hN => by
    obtain ⟨hl, rfl⟩ := rng_get hi
    exact hs i ρ N hl hP hN) (by rw [rngD_len]; exact hd)
end
end Wk
namespace Wk
open PySem PySem.Spec PyProof.Rows L2
def rowD : Bool → List Int → D
  | false, ns => .lst (dI ns)
  | true, ns => .tup (dI ns)
class RowC (x : D) (b : outParam Bool) (ns : outParam (List Int)) : Prop where
  eq : x = rowD b ns
instance {ns : List Int} : RowC (.lst (List.map D.int ns)) false ns := ⟨rfl⟩
instance {ns : List Int} : RowC (.tup (List.map D.int ns)) true ns := ⟨rfl⟩
instance {b : Bool} {ns : List Int} : RowC (rowD b ns) b ns := ⟨rfl⟩
section
variable {b : Bool} {ns : List Int} {Qd : D → Prop} {Ql : List D → Prop} {E : Er → Prop}
instance : Stp (rowM (rowD b ns) Ql E) (Ql (List.map D.int ns)) := ⟨fun h => by cases b <;> exact h⟩
instance : Stp (lenM [rowD b ns] Qd E) (Qd (.int ns.length)) := ⟨fun h => by
  cases b <;> (show Qd (.int (List.map D.int ns).length); rw [List.length_map]; exact h)⟩
end
end Wk
namespace Wk
open PySem PySem.Spec PyProof.Rows L2
theorem rep_int (n : Int) (k : Nat) : (List.replicate k [D.int n]).flatten = dI (List.replicate k n) := by
  induction k with
  | zero => rfl
  | succ k ih => rw [List.replicate_succ, List.flatten_cons, ih]; rfl
instance (priority := high) {n k : Int} {Qd : D → Prop} {E : Er → Prop} : Stp (mulM (.lst [.int n]) (.int k) Qd E) ((k ≤ 100000 ∧ -100000 ≤ k) ∧ Qd (.lst (List.map D.int (List.replicate k.toNat n)))) := ⟨fun h => by
  refine ⟨⟨h.1.1, h.1.2, ?_⟩, ?_⟩
  · show 1 * k.toNat ≤ 100000
    omega
  · show Qd (.lst (List.replicate k.toNat [D.int n]).flatten)
    rw [rep_int]
    exact h.2⟩
end Wk
namespace Wk
open PySem PySem.Spec PyProof.Rows L2
end Wk

set_option Elab.async false
set_option linter.all false
set_option maxRecDepth 100000
set_option maxHeartbeats 4000000
namespace Wk
open PySem PySem.Spec PyProof.Rows L2
def PyC0 (n : Nat) (d : D) : Prop := ∃ p, toPy d = some p ∧ ShD n p
def PyA0 (n : Nat) (ds : List D) : Prop := ∃ ps, toPyA ds = some ps ∧ ShA n ps
class PyC (n : Nat) (d : D) : Prop where
  h : PyC0 n d
class PyA (n : Nat) (ds : List D) : Prop where
  h : PyA0 n ds
instance {n : Nat} : PyC n .non := ⟨⟨_, rfl, .non⟩⟩
instance {n : Nat} {i : Int} : PyC n (.int i) := ⟨⟨_, rfl, .int i⟩⟩
instance {n : Nat} : PyA n [] := ⟨⟨_, rfl, .nil⟩⟩
instance {n : Nat} {d : D} {ds : List D} [a : PyC n d] [b : PyA n ds] : PyA n (d :: ds) := ⟨by
  obtain ⟨p, h1, h2⟩ := a.h
  obtain ⟨ps, h3, h4⟩ := b.h
  exact ⟨p :: ps, by rw [toPyA, h1, h3]; rfl, .cons h2 h4⟩⟩
theorem shl {n : Nat} {ps : List PyData} (h : ShA n ps) : ShD (n + 1) (.list ps) := ⟨h.1, Nat.succ_le_succ h.2⟩
theorem sht {n : Nat} {ps : List PyData} (h : ShA n ps) : ShD (n + 1) (.tuple ps) := ⟨h.1, Nat.succ_le_succ h.2⟩
theorem PyC0.lst {n : Nat} {ds : List D} (h : PyA0 n ds) : PyC0 (n + 1) (.lst ds) := by
  obtain ⟨ps, h1, h2⟩ := h
  exact ⟨_, by rw [toPy, h1]; rfl, shl h2⟩
theorem PyC0.tup {n : Nat} {ds : List D} (h : PyA0 n ds) : PyC0 (n + 1) (.tup ds) := by
  obtain ⟨ps, h1, h2⟩ := h
  exact ⟨_, by rw [toPy, h1]; rfl, sht h2⟩
instance {n : Nat} {ds : List D} [a : PyA n ds] : PyC (n + 1) (.lst ds) := ⟨.lst a.h⟩
instance {n : Nat} {ds : List D} [a : PyA n ds] : PyC (n + 1) (.tup ds) := ⟨.tup a.h⟩
theorem eqM_refl {neg : Bool} {d : D} {Q : D → Prop} {E : Er → Prop} (h : PyC0 8 d) (q : Q (.bl neg.not)) : eqM neg d d Q E := by
  obtain ⟨p, h1, h2⟩ := h
  have hs := shaped_of h2 (by decide)
  have hq : Q (.bl (neg != PyData.eqv p p)) := by
    rw [SeqAt.eqv_refl p (SeqAt.canLay_of_shaped hs)]
    cases neg <;> exact q
  have deep : eqDeep neg d d Q E := ⟨p, p, h1, h1, hs, hs, hq⟩
  cases d with
  | int i =>
    show Q (.bl (neg != decide (i = i)))
    rw [decide_eq_true rfl]
    cases neg <;> exact q
  | str i =>
    show Q (.bl (neg != decide (i = i)))
    rw [decide_eq_true rfl]
    cases neg <;> exact q
  | _ => exact deep
section
variable {Q : D → Prop} {E : Er → Prop} {ns ms : List Int} {d : D}
instance (priority := high) [a : PyC 8 d] : Stp (eqM true d d Q E) (Q (.bl false)) := ⟨fun h => eqM_refl a.h h⟩
instance (priority := high) [a : PyC 8 d] : Stp (eqM false d d Q E) (Q (.bl true)) := ⟨fun h => eqM_refl a.h h⟩
end
end Wk

set_option Elab.async false
set_option linter.all false
set_option maxRecDepth 100000
set_option maxHeartbeats 4000000
namespace Wk
open PySem PySem.Spec PyProof.Rows L2
end Wk

set_option Elab.async false
set_option linter.all false
set_option maxRecDepth 100000
set_option maxHeartbeats 4000000
namespace Wk
open PySem PySem.Spec PyProof.Rows L2
def ev : List Int → Int → Int
  | [], _ => 0
  | n :: ns, x => n + x * ev ns x
def at0 (ns : List Int) (k : Nat) : Int := ns[k]?.getD 0
def cf : List Int → List Int → Nat → Int
  | [], _, _ => 0
  | a :: as, bs, k => a * at0 bs k + (match k with | 0 => 0 | k + 1 => cf as bs k)
def prodL (p : Int) (as bs : List Int) : List Int := (List.range (as.length + bs.length - 1)).map fun k => cf as bs k % p
theorem prodL_len {p : Int} (as bs : List Int) : (prodL p as bs).length = as.length + bs.length - 1 := by simp [prodL]
end Wk

set_option Elab.async false
set_option linter.all false
set_option maxRecDepth 100000
set_option maxHeartbeats 4000000
namespace Wk
open PySem PySem.Spec PyProof.Rows PySem.W PySem.Calls L2
theorem star_rest {prog : Program} {w : World} {A : Around} {E : Value → Shared → Prop} {s : Shared} {I ax : Addr} {items : Array Value} {T : String} {St : Nat → Heap → Prop} {Q : List Value → Shared → Prop} {h0 : Heap} {first : List Value}
    (hT0 : T = "str_ascii_iterator" ∨ T = "str_iterator" ∨ T = "list_iterator" ∨ T = "tuple_iterator") (W : Walks prog w A.in1 I [I, ax] [I] items.size (fun i v => items[i]? = some v) St) (hT : ∀ i (u : Shared), St i u.heap → u.TypeIs (.ref I) T)
    (h1 : 1 ≤ items.size) (hz : items.size ≤ 16384) (st : St 1 s.heap) (hI : I < s.heap.objs.size) (hax : ax < s.heap.objs.size) (hk0 : ∀ b o, h0.get? b = some o → b ≠ I ∧ s.heap.get? b = some o)
    (h : ∀ (h' : Heap) (tk : Nat), (∀ b o, h0.get? b = some o → h'.get? b = some o) → Q (first ++ [.ref h'.objs.size] ++ []) { s with heap := h'.push { cls := .type "list", data := .seq (items.toList.drop 1).toArray }, toks := tk }) :
    wpAny (model prog w) A (do
      let rest ← holding first (collect (.ref I))
      if rest.length < 2 - 1 - 1 then
        rule "unpack.star.too-few"
        raiseError "ValueError" s!"not enough values to unpack (expected at least {2 - 1}, got {1 + rest.length})"
      return first ++ [← newList (rest.take (rest.length - (2 - 1 - 1)))] ++ rest.drop (rest.length - (2 - 1 - 1))) Q E s := by
  refine wpAny_bind (wpAny_holding (kun_collect hT0 W hT h1 st hI hax (fun h' tk hk => ?_) (by rw [sizeLine_eq]; omega)))
  have hl : (items.toList.drop 1).length = items.size - 1 := by rw [List.length_drop, Array.length_toList]
  show wpAny _ _ (if (items.toList.drop 1).length < 0 then _ else (newList ((items.toList.drop 1).take ((items.toList.drop 1).length - 0)) >>= fun d => pure (first ++ [d] ++ (items.toList.drop 1).drop ((items.toList.drop 1).length - 0)))) _ _ _
  rw [if_neg (Nat.not_lt_zero _), Nat.sub_zero, List.take_length, List.drop_length]
  exact wpAny_bind (wpAny_newList (wpAny_pure (h h' tk fun b o e => hk b o (hk0 b o e).1 (hk0 b o e).2)) (by rw [hl, sizeLine_eq]; omega))
theorem star_L {prog : Program} {w : World} {A : Around} {E : Value → Shared → Prop} {s : Shared} {l : Addr} {items : Array Value} {Q : List Value → Shared → Prop} (hl : s.heap.IsList l items) (hh : A.handled = none) (h1 : 1 ≤ items.size) (hz : items.size ≤ 16384)
    (h : ∀ (h' : Heap) (tk : Nat), (∀ b o, s.heap.get? b = some o → h'.get? b = some o) → Q (items.toList.take 1 ++ [.ref h'.objs.size] ++ []) { s with heap := h'.push { cls := .type "list", data := .seq (items.toList.drop 1).toArray }, toks := tk }) : wpAny (model prog w) A (unpackItems (.ref l) 2 (some 1)) Q E s := by
  have hlt : l ≠ s.heap.objs.size := by obtain ⟨o, ho, _⟩ := hl; exact Nat.ne_of_lt (Heap.lt_size ho)
  unfold unpackItems notIterableAtAll
  refine wpAny_bind (wpAny_bind (wpAny_specialOf hl.typeIs F.slot_list_iter.lookup (wpAny_pure ?_)))
  simp only [Bool.false_eq_true, if_false]
  refine wpAny_bind (wpAny_holding (wpAny_pyIter_list hl ?_))
  refine wpAny_bind (wpAny_holding (kun_draw hlt 1 0 _ _ ⟨_, Heap.get?_push_size _ rfl, rfl, rfl⟩ (hl.push _) (by omega) fun h2 hit hs => ?_))
  have hl2 : h2.IsList l items := (hl.push _).extBut hs.extBut hlt
  rw [List.drop_zero, if_neg (by rw [List.length_take, Array.length_toList]; omega)]
  obtain ⟨oi, hoi, _⟩ := id hit
  obtain ⟨ol, hol, _⟩ := id hl2
  exact star_rest (s := { s with heap := h2 }) (first := items.toList.take 1) (.inr (.inr (.inl rfl))) (Walks.list (A := A.in1) hh s.heap.objs.size l hlt items) (fun j u st => st.1.typeIs) h1 hz ⟨hit, hl2⟩ (Heap.lt_size hoi) (Heap.lt_size hol) (fun b o e => ⟨Nat.ne_of_lt (Heap.lt_size e), hs.extBut b o (Nat.ne_of_lt (Heap.lt_size e)) (Heap.get?_push_of_some _ e)⟩) h
theorem star_T {prog : Program} {w : World} {A : Around} {E : Value → Shared → Prop} {s : Shared} {l : Addr} {items : Array Value} {Q : List Value → Shared → Prop} (hl : IsTup s.heap l items) (hh : A.handled = none) (h1 : 1 ≤ items.size) (hz : items.size ≤ 16384)
    (h : ∀ (h' : Heap) (tk : Nat), (∀ b o, s.heap.get? b = some o → h'.get? b = some o) → Q (items.toList.take 1 ++ [.ref h'.objs.size] ++ []) { s with heap := h'.push { cls := .type "list", data := .seq (items.toList.drop 1).toArray }, toks := tk }) : wpAny (model prog w) A (unpackItems (.ref l) 2 (some 1)) Q E s := by
  have hlt : l ≠ s.heap.objs.size := by obtain ⟨o, ho, _⟩ := hl; exact Nat.ne_of_lt (Heap.lt_size ho)
  unfold unpackItems notIterableAtAll
  refine wpAny_bind (wpAny_bind (wpAny_specialOf hl.typeIs F.slot_tuple_iter.lookup (wpAny_pure ?_)))
  simp only [Bool.false_eq_true, if_false]
  refine wpAny_bind (wpAny_holding (iter_tuple hl ?_))
  refine wpAny_bind (wpAny_holding (draw_tuple hlt 1 0 _ _ ⟨_, Heap.get?_push_size _ rfl, rfl, rfl⟩ (hl.push _) (by omega) fun h2 hit hs => ?_))
  have hl2 : IsTup h2 l items := (hl.push _).extBut hs.extBut hlt
  rw [List.drop_zero, if_neg (by rw [List.length_take, Array.length_toList]; omega)]
  obtain ⟨oi, hoi, _⟩ := id hit
  obtain ⟨ol, hol, _⟩ := id hl2
  exact star_rest (s := { s with heap := h2 }) (first := items.toList.take 1) (.inr (.inr (.inr rfl))) (Walks.tuple (A := A.in1) hh s.heap.objs.size l hlt items) (fun j u st => st.1.typeIs) h1 hz ⟨hit, hl2⟩ (Heap.lt_size hoi) (Heap.lt_size hol) (fun b o e => ⟨Nat.ne_of_lt (Heap.lt_size e), hs.extBut b o (Nat.ne_of_lt (Heap.lt_size e)) (Heap.get?_push_of_some _ e)⟩) h
theorem pgs_starC {X : Cx} {e : Expr} {p : Pos} {es : List Expr} {t : TG} {u : TGs} (h1 : PG X e t) (h2 : PGs X es u)
    (hs : (assignEach (.Starred e p :: es) X.env).map (·.2) = assign e X.env :: (assignEach es X.env).map (·.2) := by rfl) : PGs X (.Starred e p :: es) (gCons t u) := by
  refine ⟨fun pins s σ H vs us Q I r h => ?_⟩
  obtain ⟨v, vr, e1, h⟩ := h
  subst e1
  cases r with
  | cons r rr =>
    rw [hs]
    exact assignInOrder_cons (thn (h1.run pins s σ H _ _ _ I r h) fun _ s1 ⟨σ1, H1, I1, q1⟩ => h2.run pins s1 σ1 H1 _ _ Q I1 rr q1)
theorem room1 {k : Nat} {A : Around} (r : Room k A) : A.units + 1 < cLine := by
  have := r.units
  omega
def gStar (K : PySem.W.Frag) (t : TGs) : TG := fun v σ H Q => ∃ a x xs, v = .ref a ∧ Sq K H a (x :: xs) ∧ xs.length < 16384 ∧ ∀ p, H p = none → t [x, .ref p] σ (upd H p (.lst xs)) Q
theorem pg_star {X : Cx} (K : PySem.W.Frag) (e : X.K = K) {es : List Expr} {k : Nat} {t : TGs} {pos : Pos} (hc : X.calm = true) (h : PGs X es t)
    (hn : (assignEach es X.env).length = 2 := by rfl) (hst : (assignEach es X.env).findIdx? (·.1) = some 1 := by rfl) : PG X (.Tuple es k pos) (gStar K t) := by
  subst e
  refine ⟨fun pins s σ H v u Q I r hw => ?_⟩
  obtain ⟨a, x, xs, e1, hq, hl, hw⟩ := hw
  subst e1
  cases r
  have fin : ∀ (its : List Value) (h' : Heap) (tk : Nat), Vals (x :: xs) its → (∀ b o, s.heap.get? b = some o → h'.get? b = some o) → wpAny (model X.prog X.w) X.A (assignInOrder ((assignEach es X.env).map (·.2)) (its.take 1 ++ [.ref h'.objs.size] ++ [])) (fun _ s' => ∃ σ' H', Inv X pins σ' H' s' ∧ Q σ' H') X.xe { s with heap := h'.push { cls := .type "list", data := .seq (its.drop 1).toArray }, toks := tk } := by
    intro its h' tk rv hk
    cases rv with
    | cons r1 rr =>
      rename_i y ys
      have I1 : Inv X pins σ H { s with heap := h', toks := tk } := I.kept hk
      have hp := I1.hok.fresh (Nat.le_refl h'.objs.size)
      have I2 : Inv X pins σ (upd H h'.objs.size (.lst xs)) { s with heap := h'.push { cls := .type "list", data := .seq ys.toArray }, toks := tk } := I1.laid (t' := tk) (fun b u q => Heap.get?_push_of_some _ q) (Nat.le_refl _) (show ObjOk X.prog X.w _ _ _ (.lst xs) from ⟨by rw [sizeLine_eq]; omega, ys, 0, rr, Heap.get?_push_size _ rfl⟩)
      exact h.run pins _ σ _ [x, .ref h'.objs.size] _ Q I2 (.cons r1 (.cons rfl .nil)) (hw _ hp)
  rw [PyProof.Rows.assign_Tuple]
  refine wpAny_bind (wpAny_standAt ?_)
  unfold unpack
  rw [hn, hst]
  rcases hq with hq | hq
  · obtain ⟨its, rv, pl, hz⟩ := I.list hq
    have hlen : its.length = xs.length + 1 := by have := rv.length; simp at this; omega
    refine wpAny_bind (wpAny_holding (star_L pl.isList (I.ok.hd hc) (by simp; omega) (by simp; omega) fun h' tk hk => ?_))
    exact fin its h' tk rv hk
  · obtain ⟨its, rv, ht, hz⟩ := I.tuple hq
    have hlen : its.length = xs.length + 1 := by have := rv.length; simp at this; omega
    refine wpAny_bind (wpAny_holding (star_T ht (I.ok.hd hc) (by simp; omega) (by simp; omega) fun h' tk hk => ?_))
    exact fin its h' tk rv hk
end Wk

set_option Elab.async false
set_option linter.all false
set_option maxRecDepth 100000
set_option maxHeartbeats 4000000
namespace Wk
open PySem PySem.Spec PyProof.Rows L2
section
variable {K : PySem.W.Frag} {O : Ord} {E : XK} {n nr : Nat} {te : TE} {fe : En → M}
def vStar (i j : Nat) (fe : En → M) : Ks → En → Prop := fun k ρ => anyOw ρ = false ∧ fe (vis ρ) (fun d => ∃ x xs, (d = .lst (x :: xs) ∨ d = .tup (x :: xs)) ∧ xs.length < 16384 ∧ k.nx (setE ρ [(i, x), (j, .lst xs)])) k.ex
instance {i j : Nat} [a : CV K O E 0 te fe] : CVS K O E nr (tAsg te (gStar K (gCons (gName i) (gCons (gName j) gNil)))) (vStar i j fe) := ⟨fun Hr Hs okS okR D σ H ⟨ρ, k, as, H00, R, ⟨hw, h⟩, hn, hr, hb, hc, he⟩ =>
  a.go H00 (O.okr R.hs okS) σ H _ ⟨vis ρ, R.vis, R.full, _, k.ex, h, fun d v H1 hd o1 rv _ => by
    obtain ⟨x, xs, hd, hl, hx⟩ := hd
    have R2 := (R.grow o1).bare hw
    have go : ∀ (p : Addr) (u : V) (us : List V), Sq K H1 p (u :: us) → Rp K H1 u x → RpA K H1 us xs → gStar K (gCons (gName i) (gCons (gName j) gNil)) (.ref p) σ H1 D.nx := fun p u us sq r1 r2 => by
      refine ⟨p, u, us, rfl, sq, by rw [r2.len]; exact hl, fun q hq => ⟨u, _, rfl, ⟨.ref q, _, rfl, rfl, ?_⟩⟩⟩
      have o2 : O.r H1 (upd H1 q (.lst us)) := O.same (same_new hq)
      have R3 := R2.grow o2
      have up : Upd K (hidL (upd H1 q (.lst us)) []) [(i, u), (j, .ref q)] [(i, x), (j, .lst xs)] := by
        rw [hidL_nil]
        exact .cons (r1.mono (O.ext o2)) (.cons (.lst upd_same (r2.mono (O.ext o2))) .nil)
      exact hn _ _ _ [] H00 hx (R3.setM up)
    rcases hd with rfl | rfl
    · cases rv with
      | lst h1 h2 =>
        cases h2 with
        | cons r1 r2 => exact go _ _ _ (sqL h1) r1 r2
    · cases rv with
      | tup h1 h2 =>
        cases h2 with
        | cons r1 r2 => exact go _ _ _ (.inr h1) r1 r2, exAt he R.oS⟩⟩
class KsC (trs : List (TE × TE)) (kvs : outParam (List (Key × V))) : Prop where
  eq : trs = kvs.map fun kv => (tC (kV kv.1), tC kv.2)
instance : KsC [] [] := ⟨rfl⟩
instance {x : Str} {v : V} {trs : List (TE × TE)} {kvs : List (Key × V)} [a : KsC trs kvs] : KsC ((tC (.str x), tC v) :: trs) ((.inr x, v) :: kvs) := ⟨by rw [a.eq]; rfl⟩
theorem pairs_cst {σ : L2.St} {H : Hp} : ∀ (kvs : List (Key × V)) (Q : List (V × V) → Hp → Prop), Q (kvs.map fun kv => (kV kv.1, kv.2)) H → tPairs (kvs.map fun kv => (tC (kV kv.1), tC kv.2)) σ H Q
  | [], _, h => h
  | _ :: kvs, _, h => pairs_cst kvs _ h
def vD : V → Option D
  | .int i => some (.int i)
  | .str x => some (.str x)
  | .bl b => some (.bl b)
  | .non => some .non
  | _ => none
theorem vD_rp {v : V} {d : D} {H : Hp} (h : vD v = some d) : Rp K H v d := by
  cases v <;> first | (cases h; constructor; done) | cases h
def dKy : D → Option Key
  | .int i => some (.inl i)
  | .str x => some (.inr x)
  | _ => none
theorem dKy_rp {v : V} {d : D} {k : Key} {H : Hp} (r : Rp K H v d) (h : dKy d = some k) : v = kV k := by
  cases r <;> first | (cases h; rfl) | cases h
end
section
variable {nx bk ct : En → Prop} {rt : D → Prop} {ex : Er → Prop} {ρ ρ' ρ1 : En} {fe : En → M} {i j : Nat} {d x : D} {xs : List D}
def StarN (i j : Nat) (ρ : En) (d : D) (nx : En → Prop) : Prop := ∃ x xs, (d = .lst (x :: xs) ∨ d = .tup (x :: xs)) ∧ xs.length < 16384 ∧ nx (setE ρ [(i, x), (j, .lst xs)])
instance [a : NoOw ρ] [n : NfE (vis ρ) ρ1] : Stp (vStar i j fe ⟨nx, rt, bk, ct, ex⟩ ρ) (fe ρ1 (fun d => StarN i j ρ d nx) ex) := ⟨fun h => ⟨a.eq, by rw [n.eq]; exact h⟩⟩
instance [n : NfE (setE ρ [(i, x), (j, .lst xs)]) ρ'] : Stp (StarN i j ρ (.tup (x :: xs)) nx) (xs.length < 16384 ∧ nx ρ') := ⟨fun h => ⟨x, xs, .inr rfl, h.1, by rw [n.eq]; exact h.2⟩⟩
end
end Wk

set_option Elab.async false
set_option linter.all false
set_option maxRecDepth 100000
set_option maxHeartbeats 4000000
namespace Wk
open PySem PySem.Spec PyProof.Rows L2
def sm (n : Nat) (f : Nat → Int) : Int := ((List.range n).map f).sum
section
variable {c b : Bool} {A : List (List Int)} {Qd : D → Prop} {Ql : List D → Prop} {E : Er → Prop}
variable {f : D → M}
end
theorem mapV_mapB {α : Type} {f : D → M} {E : Er → Prop} (g : α → D) (h : α → Bool) {xs : List α} {Ql : List D → Prop} (hx : ∀ a ∈ xs, ∀ Q' : D → Prop, Q' (.bl (h a)) → f (g a) Q' E) (q : Ql ((xs.map h).map D.bl)) : mapV f (xs.map g) Ql E := by
  induction xs generalizing Ql with
  | nil => exact q
  | cons x xs ih => exact hx x List.mem_cons_self _ (ih (fun y hy => hx y (List.mem_cons_of_mem _ hy)) q)
end Wk

set_option Elab.async false
set_option linter.all false
set_option maxRecDepth 100000
set_option maxHeartbeats 4000000
namespace Wk
open PySem PySem.Spec PyProof.Rows L2 LamX
section
variable {K : PySem.W.Frag} {O : Ord} {E : XK} {n nr : Nat} {te ta tb : TE} {fe fa fb : En → M}
instance {L : List (Addr × Str)} {cells : List (Str × Addr)} {q : Str} {le : Expr} : CV K (OTab L) E 0 (tLamV L cells q le) (fun _ => ret (.lam cells q le)) := ⟨fun Hs okS σ H Q ⟨ρ, r, o, Q0, E0', hm, hq, he⟩ =>
  ⟨o.2 okS, fun f H1 eN T1 nf la => hq _ _ _ hm ⟨eN, fun _ => T1⟩ (.lam la) True.intro⟩⟩
class CVM (K : PySem.W.Frag) (O : Ord) (E : XK) (n : Nat) (te : L2.St → TE) (f : outParam (En → En → M)) : Prop where
  go : ∀ Hs, O.ok Hs → ∀ σ0 ρ0 σ H Q, RelS K Hs H σ0 ρ0 → tV K O Hs E n (f ρ0) σ H Q → te σ0 σ H Q
instance {r : R2} {g : D → D → M} {ta : L2.St → TE} {fa : En → En → M} [a : CVM K O E 0 ta fa] [b : CV K O E 0 tb fb] [c : OpV K O E n r g] : CVM K O E n (fun σ0 => tOp r (ta σ0) tb) (fun ρ0 ρ => bnd (fa ρ0 ρ) fun x => bnd (fb ρ) fun y => g x y) := ⟨fun Hs okS σ0 ρ0 σ H Q r0 ⟨ρ, r, o, m⟩ =>
  a.go Hs okS σ0 ρ0 σ H _ r0 ⟨ρ, r, o, (m.bnd 0).imp fun v H1 o1 ⟨d, _, rv, _, m1⟩ => b.go Hs okS σ H1 _ ⟨ρ, r.mono (O.ext o1), O.trans o o1, (m1.bnd 0).imp fun v2 H2 o2 ⟨d2, _, rv2, _, m2⟩ => c.go Hs H2 v v2 d d2 Q (O.trans (O.trans o o1) o2) (rv.mono (O.ext o2)) rv2 m2⟩⟩⟩
class LsV (K : PySem.W.Frag) (L : List (Addr × Str)) (ls : List (Expr × (XK → TE))) (fs : outParam (List (Expr × (XK → En → M)))) : Prop where
  go : ∀ r ∈ fs, ∃ p ∈ ls, p.1 = r.1 ∧ ∀ E', CV K (OTab L) E' 0 (p.2 E') (r.2 E')
instance {L : List (Addr × Str)} : LsV K L [] [] := ⟨fun _ h => nomatch h⟩
instance {L : List (Addr × Str)} {e : Expr} {t : XK → TE} {f : XK → En → M} {ls : List (Expr × (XK → TE))} {fs : List (Expr × (XK → En → M))} [a : ∀ E', CV K (OTab L) E' 0 (t E') (f E')] [b : LsV K L ls fs] : LsV K L ((e, t) :: ls) ((e, f) :: fs) := ⟨fun r hr => by
  rcases List.mem_cons.mp hr with rfl | hr
  · exact ⟨_, List.mem_cons_self, rfl, a⟩
  · obtain ⟨p, hp, h⟩ := b.go r hr
    exact ⟨p, List.mem_cons_of_mem _ hp, h⟩⟩
theorem pe_lcMV {X : Cx} {elt tg iter : Expr} {ifs : List Expr} {scope : Scope} {own : List (Str × Nat)} {pos : Pos} {wi : TI} {g : TG} {tt : TT} {te : L2.St → TE} (vs : List Nat) (hc : X.calm = true) (hN : X.N.Nodup) (hi : PI X tg iter wi) (ok : BlkOk X.N X.env.scope scope own)
    (hg : ∀ (s : Shared) (H : Hp) (C : Addr) (cl : List (Str × Addr)) (fp : List Addr), PG (X.blk s H scope (compEnvC scope cl C X.env) fp) tg g) (ht : ∀ (s : Shared) (H : Hp) (C : Addr) (cl : List (Str × Addr)) (fp : List Addr), PTs (X.blk s H scope (compEnvC scope cl C X.env) fp) ifs tt)
    (he : ∀ (σ : L2.St) (pins : List (Addr × Obj)) (s : Shared) (H : Hp) (C : Addr) (cl : List (Str × Addr)) (fp : List Addr), Inv X pins σ H s → (∀ b ∈ fp, FpOk X pins H b) → PE (X.blk s H scope (compEnvC scope cl C X.env) fp) elt (te σ)) (hv : own.map (·.2) = vs := by rfl) (hs : ∀ x, foldedSetIterable iter X.env x = pure x := by intro _; rfl) :
    PE X (.ListComp elt [⟨tg, iter, ifs, 0⟩] scope pos) (tLcM wi g tt te vs) := by
  subst hv
  exact pe_lcM hc hN hi ok hg ht he hs
instance {wi : TI} {g : TG} {u : D → Option (List (Nat × D))} {fi : En → MM (List D)} {te : L2.St → TE} {fe : En → En → M} {vs : List Nat} [a : CVI K O E wi fi] [c : CVG K g u] [b : CVM K O E0 0 te fe] : CV K O E 0 (tLcM wi g tYes (fun σ0 => tHid (te σ0)) vs) (fun ρ => lcM vs fi u (fe ρ) ρ) := ⟨fun Hs okS σ H Q h => by
  obtain ⟨ρ, r, o, Q0, E0', hm, hq, he⟩ := h
  refine a.go Hs okS σ H _ ⟨ρ, r, o, _, E0', hm, fun xs J H1 ⟨hz, hx⟩ o1 ok => ?_, he⟩
  refine lc_word (O := O) (Hs := Hs) (n := 0) ok (O.trans o o1) (fun rest es => mapV (elV vs u (fe ρ) ρ) rest (fun ys => Q0 (.lst (es ++ ys))) E0') hx (fun x rest es H' H'' v p hS hl w sm rv => ?_) (fun es p H' hS hp w => ?_)
  · obtain ⟨ps, h1, h2, h3⟩ := hS
    obtain ⟨B, ys, eH, hB, o2, rA, fA, s2, hnew⟩ := w.yields sm
    refine c.go v x B H'' _ _ ps s2 (rv B (O.ext o2) hnew) h1 fun qs up => ?_
    refine ⟨?_, g_yes (g_iteT ?_)⟩
    · rw [wipe_setV up h2]
      exact wipe_wipe vs fun _ z => z
    · subst eH
      refine ⟨p, ys, upd_same, ?_⟩
      rw [hid_upd hB]
      refine b.go Hs okS σ ρ _ B _ (r.mono (O.ext (O.trans o1 o2))) ⟨_, ((r.mono (O.ext (O.trans o1 o2))).wipe vs).setM up, O.trans (O.trans o o1) o2, _, fun _ => False, h3, fun d v' B' hd o' rv' fv hn => ⟨ys, upd_same, ?_, es ++ [d], ?_, by rw [List.length_append, List.length_singleton]; omega, ⟨B', ys ++ [v'], by rw [upd_upd], hn, O.trans o2 o', (rA.mono (O.ext o')).snoc rv', FrA.zero⟩⟩, fun _ z => z.elim⟩
      · rw [rA.len]
        exact Nat.lt_of_lt_of_le (show es.length < 16777216 by omega) (by decide)
      · have e : (fun ys => Q0 (.lst (es ++ d :: ys))) = fun ys => Q0 (.lst (es ++ [d] ++ ys)) := by
          funext ys
          rw [List.append_assoc]
          rfl
        rw [← e]
        exact hd
  · obtain ⟨h1, h2, h3⟩ := w.done hp (O.trans o o1)
    have hS' : Q0 (.lst (es ++ [])) := hS
    rw [List.append_nil] at hS'
    exact hq _ _ H' hS' (O.trans o1 h1) h2 True.intro⟩
end
section
variable {f : D → M} {x : D} {xs : List D} {Ql : List D → Prop} {E : Er → Prop}
instance (priority := low) : Stp (mapV f [] Ql E) (Ql []) := ⟨id⟩
instance (priority := low) : Stp (mapV f (x :: xs) Ql E) (f x (fun y => mapV f xs (fun ys => Ql (y :: ys)) E) E) := ⟨id⟩
end
instance {c : List (Str × Addr)} {q : Str} {le : Expr} : FlatC (.lam c q le) := ⟨by simp [flatD]⟩
section
variable {K : PySem.W.Frag} {O : Ord} {E : XK} {n nr : Nat} {te : TE} {fe : En → M}
end
section
variable {nx bk ct : En → Prop} {rt : D → Prop} {ex : Er → Prop} {ρ ρ' ρ1 ρ2 : En} {fe : En → M} {i j n : Nat} {d : D} {s : Sl} {p q : List Nat}
end
class AtC (ds : List D) (n : Nat) (d : outParam D) : Prop where
  eq : ds[n]? = some d
instance {d : D} {ds : List D} : AtC (d :: ds) 0 d := ⟨rfl⟩
instance {d e : D} {ds : List D} {n : Nat} [h : AtC ds n e] : AtC (d :: ds) (n + 1) e := ⟨by rw [List.getElem?_cons_succ]; exact h.eq⟩
instance {ds : List D} {n : Nat} {d : D} {Q : D → Prop} [h : AtC ds n d] : Stp (∃ e, atI ds (OfNat.ofNat n) = some e ∧ Q e) (Q d) := ⟨fun q => ⟨d, atI_nat h.eq, q⟩⟩
class AppL (as bs : List D) (cs : outParam (List D)) : Prop where
  eq : as ++ bs = cs
instance {bs : List D} : AppL [] bs bs := ⟨rfl⟩
instance {a : D} {as bs cs : List D} [h : AppL as bs cs] : AppL (a :: as) bs (a :: cs) := ⟨by rw [List.cons_append, h.eq]⟩
class NfL (as : List D) (cs : outParam (List D)) : Prop where
  eq : as = cs
instance {a : D} {as : List D} : NfL (a :: as) (a :: as) := ⟨rfl⟩
instance {as bs as' cs : List D} [h : NfL as as'] [g : AppL as' bs cs] : NfL (as ++ bs) cs := ⟨by rw [h.eq, g.eq]⟩
instance {f : D → M} {as bs cs : List D} {Ql : List D → Prop} {E : Er → Prop} [h : NfL (as ++ bs) cs] : Stp (mapV f (as ++ bs) Ql E) (mapV f cs Ql E) := ⟨fun q => by rw [h.eq]; exact q⟩
class LayS (x : Str) : Prop where
  h : (PyData.str x).canLay0 = true
instance {n : Nat} {x : Str} [s : LayS x] : PyC n (.str x) := ⟨⟨_, rfl, .str s.h⟩⟩
instance : LayS (Str.ofString "") := ⟨by decide +kernel⟩
instance : LayS (Str.ofString "BadSaying") := ⟨by decide +kernel⟩
section
variable {K : PySem.W.Frag} {O : Ord} {E : XK} {nr : Nat} {te : TE} {fe : En → M}
end
section
variable {nx bk ct : En → Prop} {rt : D → Prop} {ex : Er → Prop} {ρ ρ' ρ1 : En} {fe : En → M} {i n : Nat} {d : D} {s : Sl}
end
end Wk

set_option Elab.async false
set_option linter.all false
set_option maxRecDepth 100000
set_option maxHeartbeats 4000000
namespace Wk
open PySem PySem.Spec PyProof.Rows L2
section
variable {K : PySem.W.Frag} {O : Ord} {E : XK} {n nr : Nat} {te tf tg : TE} {fe ff fg : En → M}
end
section
variable {nx bk ct : En → Prop} {rt : D → Prop} {ex : Er → Prop} {ρ ρ' ρ1 : En} {fe fg ff : En → M} {i n : Nat} {d : D} {s : Sl} {A : List (List Int)} {op : List Int → Option (List Int)}
end
end Wk

set_option Elab.async false
set_option linter.all false
set_option maxRecDepth 100000
set_option maxHeartbeats 4000000
namespace Wk
open PySem PySem.Spec PyProof.Rows L2
inductive Bd where
  | nm (x : Str)
  | nt (b : Bd)
  | an (b c : Bd)
  | orr (b c : Bd)
def bD : Bd → D
  | .nm x => .tup [.str "name", .str x]
  | .nt b => .tup [.str "not", bD b]
  | .an b c => .tup [.str "and", bD b, bD c]
  | .orr b c => .tup [.str "or", bD b, bD c]
def Bd.parts : Bd → Nat
  | .nm _ => 1
  | .nt b => b.parts + 1
  | .an b c => b.parts + c.parts + 1
  | .orr b c => b.parts + c.parts + 1
def Bd.deep : Bd → Nat
  | .nm _ => 1
  | .nt b => b.deep + 1
  | .an b c => max b.deep c.deep + 1
  | .orr b c => max b.deep c.deep + 1
def Bd.often (x : Str) : Bd → Nat
  | .nm y => if y = x then 1 else 0
  | .nt b => b.often x
  | .an b c => b.often x + c.often x
  | .orr b c => b.often x + c.often x
def Bd.names : Bd → List Str
  | .nm x => [x]
  | .nt b => b.names
  | .an b c => b.names ++ c.names
  | .orr b c => b.names ++ c.names
structure Say where
  front : List (Bool × Str)
  body : Bd
def wordS (b : Bool) : Str := if b = true then "all" else "some"
def sayD (s : Say) : D := .tup [.tup (s.front.map fun p => .tup [.str (wordS p.1), .str p.2]), bD s.body]
end Wk

set_option Elab.async false
set_option linter.all false
set_option maxRecDepth 100000
set_option maxHeartbeats 4000000
namespace Wk
open PySem PySem.Spec PyProof.Rows L2
def lookD (ks : List Key) (ds : List D) (k : Key) : Option D := ((ks.zip ds).find? fun p => decide (p.1 = k)).map (·.2)
section
variable {K : PySem.W.Frag} {O : Ord} {E : XK} {n nr : Nat} {td ty te : TE} {fd fy fe : En → M} {Hs H : Hp}
theorem lookD_rp {k : Key} {d : D} : ∀ {kvs : List (Key × V)} {ks : List Key} {xs : List V} {ds : List D}, kvs.map (·.1) = ks → kvs.map (·.2) = xs → RpA K H xs ds → lookD ks ds k = some d → ∃ v, valV kvs k = some v ∧ Rp K H v d
  | [], ks, xs, ds, h1, h2, r, h => by
    subst h1
    cases h
  | p :: kvs, ks, xs, ds, h1, h2, r, h => by
    subst h1
    subst h2
    cases r with
    | @cons _ _ e es h3 r =>
      by_cases hk : p.1 = k
      · refine ⟨p.2, valV_pos hk, ?_⟩
        have : lookD ((p :: kvs).map (·.1)) (e :: es) k = some e := by
          unfold lookD
          simp [hk]
        rw [this] at h
        cases h
        exact h3
      · have : lookD ((p :: kvs).map (·.1)) (e :: es) k = lookD (kvs.map (·.1)) es k := by
          unfold lookD
          simp [hk]
        rw [this] at h
        obtain ⟨v, h4, h5⟩ := lookD_rp (kvs := kvs) rfl rfl r h
        exact ⟨v, by rw [valV_neg hk]; exact h4, h5⟩
def dgM : D → D → M
  | .dct ks ds, y => fun Q _ => ∃ k d, dKy y = some k ∧ lookD ks ds k = some d ∧ Q d
  | _, _ => stuck
instance (priority := low) cv_dget [a : CV K O E 0 td fd] [b : CV K O E 0 ty fy] : CV K O E 0 (tDGet td ty) (fun ρ => bnd (fd ρ) fun x => bnd (fy ρ) fun y => dgM x y) := ⟨fun Hs okS σ H Q ⟨ρ, r, o, m⟩ =>
  a.go Hs okS σ H _ ⟨ρ, r, o, (m.bnd 0).imp fun v H1 o1 ⟨d, _, rv, _, m1⟩ => b.go Hs okS σ H1 _ ⟨ρ, r.mono (O.ext o1), O.trans o o1, (m1.bnd 0).imp fun v2 H2 o2 ⟨d2, _, rv2, _, m2⟩ => by
    have rv' := rv.mono (O.ext o2)
    cases d <;> first
      | exact Rs.stuck m2
      | (cases rv' with
         | @dct a kvs ks xs ds h1 h2 h3 h4 =>
           obtain ⟨Q0, E0, ⟨k, d, g1, g2, g3⟩, hq, he⟩ := m2
           obtain ⟨v, g4, g5⟩ := lookD_rp h2 h3 h4 g2
           have e1 := dKy_rp rv2 g1
           subst e1
           refine ⟨a, v, rfl, ?_, hq d v H2 g3 (O.refl H2) g5 True.intro⟩
           have := DGet.k (k := k) h1
           rw [g4] at this
           exact this)⟩⟩⟩
theorem dg_ok {ks : List Key} {ds : List D} {y d : D} {k : Key} {Q : D → Prop} {E : Er → Prop} (h1 : dKy y = some k) (h2 : lookD ks ds k = some d) (q : Q d) : dgM (.dct ks ds) y Q E := ⟨k, d, h1, h2, q⟩
end
def rDG (x y : V) (H : Hp) (Q : VK) : Prop := ∃ a v, x = .ref a ∧ DGet H a y (some v) ∧ Q v H
instance {td ty : TE} {σ : L2.St} {H : Hp} {Q : VK} : Stp (tDGet td ty σ H Q) (td σ H fun x H1 => ty σ H1 fun y H2 => rDG x y H2 Q) := ⟨id⟩
theorem g_dg {a : Addr} {kvs : List (Key × V)} {k : Key} {v : V} {H : Hp} {Q : VK} (e : H a = some (.dK kvs)) (h : valV kvs k = some v) (q : Q v H) : rDG (.ref a) (kV k) H Q := ⟨a, v, rfl, by have := DGet.k (k := k) e; rw [h] at this; exact this, q⟩
def rDP (σ : L2.St) (x y v : V) (H : Hp) (D : Ends) : Prop := ∃ a H4, x = .ref a ∧ DPut H a y v H4 ∧ D.nx σ H4
instance {td ty tv : TE} {σ : L2.St} {H : Hp} {D : Ends} : Stp (sDPut td ty tv D σ H) (tv σ H fun v H1 => td σ H1 fun x H2 => ty σ H2 fun y H3 => rDP σ x y v H3 D) := ⟨id⟩
theorem g_dp {a : Addr} {kvs : List (Key × V)} {k : Key} {v : V} {σ : L2.St} {H : Hp} {D : Ends} (e : H a = some (.dK kvs)) (hl : kvs.length < 1000) (q : D.nx σ (upd H a (.dK (putK kvs k v)))) : rDP σ (.ref a) (kV k) v H D := ⟨a, _, rfl, DPut.k e (Nat.lt_of_lt_of_le hl (by decide)), q⟩
theorem g_dgS {a : Addr} {kvs : List (Key × V)} {x : Str} {v : V} {H : Hp} {Q : VK} (e : H a = some (.dK kvs)) (h : valV kvs (.inr x) = some v) (q : Q v H) : rDG (.ref a) (.str x) H Q := g_dg (k := .inr x) e h q
theorem g_dpS {a : Addr} {kvs : List (Key × V)} {x : Str} {v : V} {σ : L2.St} {H : Hp} {D : Ends} (e : H a = some (.dK kvs)) (hl : kvs.length < 1000) (q : D.nx σ (upd H a (.dK (putK kvs (.inr x) v)))) : rDP σ (.ref a) (.str x) v H D := g_dp (k := .inr x) e hl q
def cntK (names : List Str) (c : Str → Nat) : List (Key × V) := names.map fun x => (.inr x, .int (c x : Int))
theorem cntK_val {names : List Str} {c : Str → Nat} {x : Str} (h : x ∈ names) : valV (cntK names c) (.inr x) = some (.int (c x)) := by
  induction names with
  | nil => cases h
  | cons y ys ih =>
    show valV (((Sum.inr y : Key), V.int (c y)) :: cntK ys c) (.inr x) = _
    by_cases e : y = x
    · subst e
      exact valV_pos rfl
    · rw [valV_neg (by simpa using e)]
      exact ih ((List.mem_cons.mp h).resolve_left fun z => e z.symm)
theorem cntK_put {names : List Str} {c : Str → Nat} {x : Str} {m : Nat} (h : x ∈ names) : putK (cntK names c) (.inr x) (.int (m : Int)) = cntK names (fun y => if y = x then m else c y) := by
  unfold putK
  have : (cntK names c).any (fun kv => decide (kv.1 = (.inr x : Key))) = true := by
    rw [valV_any, cntK_val h]
    rfl
  rw [if_pos this]
  unfold cntK
  rw [List.map_map]
  refine List.map_congr_left fun y _ => ?_
  by_cases e : y = x
  · subst e
    simp
  · simp [e]
def sumC (names : List Str) (c : Str → Nat) : Int := (names.map fun x => (c x : Int)).sum
theorem sumC_put {c : Str → Nat} {x : Str} : ∀ {names : List Str}, names.Nodup → x ∈ names → sumC names (fun y => if y = x then c x + 1 else c y) = sumC names c + 1
  | [], _, h => by cases h
  | y :: ys, hn, h => by
    have hn' := List.nodup_cons.mp hn
    unfold sumC
    rw [List.map_cons, List.map_cons, List.sum_cons, List.sum_cons]
    by_cases e : y = x
    · subst e
      have : (ys.map fun z => (((if z = y then c y + 1 else c z : Nat)) : Int)) = ys.map fun z => (c z : Int) := List.map_congr_left fun z hz => by
        rw [if_neg fun q : z = y => hn'.1 (q ▸ hz)]
      rw [this]
      show (((if y = y then c y + 1 else c y : Nat)) : Int) + _ = _
      rw [if_pos rfl]
      omega
    · have ih := sumC_put (c := c) hn'.2 ((List.mem_cons.mp h).resolve_left fun z => e z.symm)
      unfold sumC at ih
      rw [ih]
      show (((if y = x then c x + 1 else c y : Nat)) : Int) + _ = _
      rw [if_neg e]
      omega
theorem sumC_le {c : Str → Nat} {t : Int} : ∀ {names : List Str}, (∀ x ∈ names, t ≤ c x) → t * names.length ≤ sumC names c
  | [], _ => by simp [sumC]
  | y :: ys, h => by
    have ih := sumC_le (names := ys) fun x hx => h x (List.mem_cons_of_mem _ hx)
    have hy := h y List.mem_cons_self
    unfold sumC at ih ⊢
    rw [List.map_cons, List.sum_cons, List.length_cons]
    have : t * ((ys.length + 1 : Nat) : Int) = t * ys.length + t := by
      rw [Int.natCast_add, Int.mul_add]
      simp
    omega
theorem sumC_some {names : List Str} {c : Str → Nat} {t : Int} (h : sumC names c < t * names.length) : ∃ x ∈ names, (c x : Int) < t := by
  by_cases hx : ∃ x ∈ names, (c x : Int) < t
  · exact hx
  · have := sumC_le (names := names) (c := c) (t := t) fun x hm => by
      by_cases z : (c x : Int) < t
      · exact absurd ⟨x, hm, z⟩ hx
      · omega
    omega
structure BodyR (n : Nat) (names : List Str) (t k0 k1 : Int) (c : Str → Nat) (b : Bd) (k0' k1' : Int) (c' : Str → Nat) : Prop where
  parts : (b.parts : Int) + k0' ≤ k0 + 1
  deep : b.deep ≤ n
  oft : ∀ x, c' x = c x + b.often x
  nms : ∀ x ∈ b.names, x ∈ names
  lv : k1' + sumC names c' = k1 + sumC names c + 1
  p0 : 0 ≤ k0'
  p1 : 0 ≤ k1'
  le : ∀ x ∈ names, (c' x : Int) ≤ t
def kitL (k0 k1 : Int) (ct : Addr) (t : Int) : List V := [.int k0, .int k1, .ref ct, .int t]
structure KitS (H : Hp) (dr nm kt ct : Addr) (names : List Str) (k0 k1 t : Int) (c : Str → Nat) : Prop where
  dr : Drw H dr
  nm : H nm = some (.lst (names.map V.str))
  kt : H kt = some (.lst (kitL k0 k1 ct t))
  ct : H ct = some (.dK (cntK names c))
def Out (kt ct : Addr) (H H' : Hp) : Prop := ∀ a o, a ≠ kt → a ≠ ct → H a = some o → H' a = some o
section
variable {H H' : Hp} {dr nm kt ct : Addr} {names : List Str} {k0 k1 t : Int} {c : Str → Nat}
theorem Out.of (s : L2.Same H H') : Out kt ct H H' := fun a o _ _ e => s a o e
theorem Out.trans {H2 : Hp} (a : Out kt ct H H') (b : Out kt ct H' H2) : Out kt ct H H2 := fun x o h1 h2 e => b x o h1 h2 (a x o h1 h2 e)
theorem Out.kk {o : HO} : Out kt ct H (upd H kt o) := fun a u h1 h2 e => by rw [upd_ne h1]; exact e
theorem Out.dc {o : HO} : Out kt ct H (upd H ct o) := fun a u h1 h2 e => by rw [upd_ne h2]; exact e
theorem KitS.same (h : KitS H dr nm kt ct names k0 k1 t c) (s : L2.Same H H') : KitS H' dr nm kt ct names k0 k1 t c := ⟨h.dr.mono s, s _ _ h.nm, s _ _ h.kt, s _ _ h.ct⟩
theorem KitS.ne (h : KitS H dr nm kt ct names k0 k1 t c) : kt ≠ ct := ne_of h.kt h.ct fun z => by cases z
theorem KitS.nk (h : KitS H dr nm kt ct names k0 k1 t c) : nm ≠ kt := ne_of h.nm h.kt fun z => by
  injection z with z
  unfold kitL at z
  cases names with
  | nil => cases z
  | cons x xs =>
    rw [List.map_cons] at z
    injection z with z1 z2
    cases z1
theorem KitS.nc (h : KitS H dr nm kt ct names k0 k1 t c) : nm ≠ ct := ne_of h.nm h.ct fun z => by cases z
theorem KitS.out {k0' k1' : Int} {c' : Str → Nat} (h : KitS H dr nm kt ct names k0 k1 t c) (o : Out kt ct H H') (e1 : H' kt = some (.lst (kitL k0' k1' ct t))) (e2 : H' ct = some (.dK (cntK names c'))) : KitS H' dr nm kt ct names k0' k1' t c' := by
  obtain ⟨cl, ns, h1, h2⟩ := h.dr
  refine ⟨⟨cl, ns, o _ _ ?_ ?_ h1, o _ _ ?_ ?_ h2⟩, o _ _ h.nk h.nc h.nm, e1, e2⟩
  · exact ne_of h1 h.kt fun z => by unfold DrawO at z; cases z
  · exact ne_of h1 h.ct fun z => by unfold DrawO at z; cases z
  · refine ne_of h2 h.kt fun z => ?_
    injection z with z
    unfold kitL at z
    have z3 : (ns.map V.int)[2]? = some (.ref ct) := by rw [z]; rfl
    rw [List.getElem?_map] at z3
    cases q : ns[2]? with
    | none => rw [q] at z3; cases z3
    | some y => rw [q] at z3; cases z3
  · exact ne_of h2 h.ct fun z => by cases z
theorem KitS.setK {k0' k1' : Int} (h : KitS H dr nm kt ct names k0 k1 t c) : KitS (upd H kt (.lst (kitL k0' k1' ct t))) dr nm kt ct names k0' k1' t c := h.out Out.kk upd_same (by rw [upd_ne h.ne.symm]; exact h.ct)
theorem KitS.setC {c' : Str → Nat} (h : KitS H dr nm kt ct names k0 k1 t c) : KitS (upd H ct (.dK (cntK names c'))) dr nm kt ct names k0 k1 t c' := h.out Out.dc (by rw [upd_ne h.ne]; exact h.kt) upd_same
end
mutual
theorem Rp.out {K : PySem.W.Frag} {H H' : Hp} (o : ∀ a u, (∀ xs, u ≠ HO.lst xs) → (∀ xs, u ≠ HO.dK xs) → H a = some u → H' a = some u) : ∀ {v : V} {d : D}, Rp K H v d → flatD d = true → Rp K H' v d
  | _, .non, r, _ => by cases r; exact .non
  | _, .bl _, r, _ => by cases r; exact .bl _
  | _, .int _, r, _ => by cases r; exact .int _
  | _, .str _, r, _ => by cases r; exact .str _
  | _, .lst _, _, f => by cases f
  | _, .drw, _, f => by cases f
  | _, .scr, _, f => by cases f
  | _, .dct _ _, _, f => by cases f
  | _, .adr _, r, _ => by cases r; exact .adr _
  | _, .lam _ _ _, r, _ => by
    cases r with
    | @lam a cells q le la =>
      obtain ⟨params, body, scope, pos, pm, c', ctv, e1, h1, h2⟩ := la
      exact .lam ⟨params, body, scope, pos, pm, c', ctv, e1, o _ _ (fun ys z => by unfold LamF at z; cases z) (fun ys z => by unfold LamF at z; cases z) h1, o _ _ (fun ys z => by unfold LamX.CodeO at z; cases z) (fun ys z => by unfold LamX.CodeO at z; cases z) h2⟩
  | _, .tup ds, r, f => by
    cases r with
    | @tup a xs _ h1 h2 =>
      have r2 := RpA.out o h2 (by simpa [flatD] using f)
      refine .tup ?_ r2
      rcases h1 with (h1 | ⟨ob, h1⟩) | h1
      · exact .inl (.inl (o _ _ (fun _ z => by cases z) (fun _ z => by cases z) h1))
      · exact .inl (.inr ⟨ob, o _ _ (fun _ z => by cases z) (fun _ z => by cases z) h1⟩)
      · exact .inr h1
  | _, .obj C ns ds, r, f => by
    cases r with
    | @obj a C dx fs ns xs _ h1 e1 e2 h2 =>
      exact .obj (dx := dx) (fs := fs) (o _ _ (fun _ z => by cases z) (fun _ z => by cases z) h1) e1 e2 (RpA.out o h2 (by simpa [flatD] using f))
theorem RpA.out {K : PySem.W.Frag} {H H' : Hp} (o : ∀ a u, (∀ xs, u ≠ HO.lst xs) → (∀ xs, u ≠ HO.dK xs) → H a = some u → H' a = some u) : ∀ {vs : List V} {ds : List D}, RpA K H vs ds → flatA ds = true → RpA K H' vs ds
  | _, [], r, _ => by cases r; exact .nil
  | _, d :: ds, r, f => by
    cases r with
    | cons h1 h2 =>
      rw [flatA, Bool.and_eq_true] at f
      exact .cons (Rp.out o h1 f.1) (RpA.out o h2 f.2)
end
theorem KitS.flat {K : PySem.W.Frag} {H H' : Hp} {dr nm kt ct : Addr} {names : List Str} {k0 k1 t : Int} {c : Str → Nat} (h : KitS H dr nm kt ct names k0 k1 t c) (o : Out kt ct H H') {v : V} {d : D} (r : Rp K H v d) (f : flatD d = true) : Rp K H' v d :=
  r.out (fun a u h1 h2 e => o a u (fun z => by subst z; rw [h.kt] at e; exact h1 _ (Option.some.inj e).symm) (fun z => by subst z; rw [h.ct] at e; exact h2 _ (Option.some.inj e).symm) e) f
theorem flat_bD : ∀ b : Bd, flatD (bD b) = true
  | .nm x => by simp [bD, flatD, flatA]
  | .nt b => by simp [bD, flatD, flatA, flat_bD b]
  | .an b c => by simp [bD, flatD, flatA, flat_bD b, flat_bD c]
  | .orr b c => by simp [bD, flatD, flatA, flat_bD b, flat_bD c]
theorem lookD_names {names : List Str} {f : Str → D} {x : Str} (h : x ∈ names) : lookD (names.map Sum.inr) (names.map f) (.inr x) = some (f x) := by
  induction names with
  | nil => cases h
  | cons y ys ih =>
    unfold lookD
    rw [List.map_cons, List.map_cons, List.zip_cons_cons, List.find?_cons]
    by_cases e : y = x
    · subst e
      simp
    · have : decide ((Sum.inr y : Key) = Sum.inr x) = false := by simp [e]
      rw [this]
      exact ih ((List.mem_cons.mp h).resolve_left fun z => e z.symm)
theorem filV_S {t : D → MM Bool} {f : D → M} {E : Er → Prop} (p : Str → Bool) : ∀ {names : List Str} {Q : List D → Prop}, (∀ x ∈ names, ∀ Q' : Bool → Prop, Q' (p x) → t (.str x) Q' E) → (∀ x ∈ names, p x = true → ∀ Q' : D → Prop, Q' (.str x) → f (.str x) Q' E) → Q ((names.filter p).map D.str) → filV t f (names.map D.str) Q E
  | [], Q, _, _, q => q
  | x :: xs, Q, h1, h2, q => by
    refine h1 x List.mem_cons_self _ ?_
    show (if p x = true then _ else _ : MM (List D)) Q E
    by_cases hp : p x = true
    · rw [if_pos hp]
      refine h2 x List.mem_cons_self hp _ ?_
      show filV t f (xs.map D.str) (fun ys => Q (.str x :: ys)) E
      refine filV_S p (fun y hy => h1 y (List.mem_cons_of_mem _ hy)) (fun y hy => h2 y (List.mem_cons_of_mem _ hy)) ?_
      rw [List.filter_cons_of_pos hp] at q
      exact q
    · rw [if_neg hp]
      refine filV_S p (fun y hy => h1 y (List.mem_cons_of_mem _ hy)) (fun y hy => h2 y (List.mem_cons_of_mem _ hy)) ?_
      rw [List.filter_cons_of_neg hp] at q
      exact q
theorem rpStrs {K : PySem.W.Frag} {H : Hp} : ∀ xs : List Str, RpA K H (xs.map V.str) (xs.map D.str)
  | [] => .nil
  | x :: xs => .cons (.str x) (rpStrs xs)
theorem rpCnt {K : PySem.W.Frag} {H : Hp} {c : Str → Nat} : ∀ xs : List Str, RpA K H (xs.map fun x => V.int (c x : Int)) (xs.map fun x => D.int (c x : Int))
  | [] => .nil
  | x :: xs => .cons (.int _) (rpCnt xs)
def kitD (names : List Str) (k0 k1 t : Int) (c : Str → Nat) : D := .lst [.int k0, .int k1, .dct (names.map Sum.inr) (names.map fun x => D.int (c x : Int)), .int t]
theorem KitS.rel {K : PySem.W.Frag} {H : Hp} {dr nm kt ct : Addr} {names : List Str} {k0 k1 t : Int} {c : Str → Nat} (h : KitS H dr nm kt ct names k0 k1 t c) {n1 r : V} : RelS K H H [some (.ref dr), some (.ref nm), some (.ref kt), some n1, some r, none, none] [.fz .drw, .fz (.lst (names.map D.str)), .fz (kitD names k0 k1 t c), .no, .no, .no, .no] := by
  refine ⟨rfl, fun i s hs => ?_⟩
  match i, hs with
  | 0, hs => cases hs; exact .drw h.dr
  | 1, hs => cases hs; exact .lst h.nm (rpStrs names)
  | 2, hs =>
    cases hs
    refine .lst h.kt (.cons (.int _) (.cons (.int _) (.cons (.dct h.ct ?_ ?_ (rpCnt names)) (.cons (.int _) .nil))))
    · simp [cntK]
    · simp [cntK]
  | 3, hs => cases hs; exact True.intro
  | 4, hs => cases hs; exact True.intro
  | 5, hs => cases hs; exact True.intro
  | 6, hs => cases hs; exact True.intro
end Wk

set_option Elab.async false
set_option linter.all false
set_option maxRecDepth 100000
set_option maxHeartbeats 4000000
namespace Wk
open PySem PySem.Spec PyProof.Rows L2
abbrev tl (x : Str) : List Nat := x.cps.toList
theorem tl_len (x : Str) : x.length = (tl x).length := by simp [tl, Str.length]
theorem tl_ext {x y : Str} (h : tl x = tl y) : x = y := Str.ext' (Array.toList_inj.mp h)
theorem tl_app (x y : Str) : tl (x ++ y) = tl x ++ tl y := by
  show (x ++ y).cps.toList = _
  rw [Str.cps_append, Array.toList_append]
def sgn (c : Nat) : Str := ⟨#[c]⟩
theorem tl_sgn (c : Nat) : tl (sgn c) = [c] := rfl
section
variable {X : Cx}
def rLenT : List V → Hp → VK → Prop := fun xs H Q => ∃ z, xs = [.str z] ∧ z.length ≤ sizeLine ∧ Q (.int z.length) H
theorem call_lenT : CallR X (.builtin "len") rLenT := call_len_str
def rInT (neg : Bool) : R2 := fun x y H Q => ∃ (c : Nat) (z : Str), x = .str ⟨#[c]⟩ ∧ y = .str z ∧ Q (.bl (neg != decide (c ∈ z.cps.toList))) H
theorem op_inT : OpR X (compareOp .In) (rInT false) := fun pins s σ H x y v u Q I rx ry ⟨c, z, h1, h2, q⟩ => op_in_sign pins s σ H x y v u Q I rx ry ⟨c, z, h1, h2, by simpa using q⟩
def rMulT : R2 := fun x y H Q => ∃ z : Str, x = .str z ∧ y = .int 2 ∧ 1 ≤ z.length ∧ z.length ≤ 1000 ∧ Q (.str (z ++ z)) H
theorem op_mulT : OpR X (binaryOp .Mult) rMulT := fun pins s σ H x y v u Q I rx ry h => by
  obtain ⟨z, rfl, rfl, h1, h2, q⟩ := h
  obtain ⟨t, rfl⟩ := rx
  obtain ⟨t', rfl⟩ := ry
  have hz : (z.length == 0) = false := by rw [beq_eq_false_iff_ne]; omega
  have hl : ¬ (16777216 < z.length * 2) := by omega
  refine PySem.P.mul_str (by decide) (fun _ _ => ?_) (fun _ _ => ?_) ?_
  · have : ((2 : Int) ^ 63 - 1) / 2 = 4611686018427387903 := by decide
    rw [this]
    omega
  · refine decide_eq_false fun z => ?_
    have e : sizeLine = 16777216 := by decide
    rw [e] at z
    exact hl z
  · rw [if_neg (by decide), if_neg (by simp [hz])]
    have e : (⟨(List.replicate (2 : Int).toNat z.cps).foldl (· ++ ·) #[]⟩ : Str) = z ++ z := by
      apply Str.ext'
      rw [Str.cps_append]
      show (#[] ++ z.cps) ++ z.cps = _
      simp
    rw [e]
    exact ⟨by rw [tl_len, tl_app, List.length_append, ← tl_len]; have e : sizeLine = 16777216 := (by decide); rw [e]; omega, .str (z ++ z), H, I.tok _, ⟨_, rfl⟩, q⟩
def rJoin (K : PySem.W.Frag) : V → List V → Hp → VK → Prop := fun x xs H Q => ∃ a p, ∃ ys : List Str, x = .str a ∧ xs = [.ref p] ∧ (SqL K H p (ys.map V.str) ∨ SqT K H p (ys.map V.str)) ∧ (ys.map (·.length)).sum + ys.length * a.length ≤ 16777216 ∧ Q (.str (Str.join a ys)) H
def tJoin (K : PySem.W.Frag) (to te : TE) : TE := tM1 (rJoin K) to te
theorem pe_joinT (K : PySem.W.Frag) (eK : X.K = K) {o e : Expr} {to te : TE} {apos pos : Pos} (ho : PE X o to) (he : PE X e te) (hs : starEach [e] X.env = [(false, eval e X.env)] := by rfl) (hbase : attributeBase o "join" X.env (eval o X.env) = eval o X.env := by rfl) (hline : (apos.endLine == pos.line) = true := by rfl) :
    PE X (.Call (.Attribute o "join" apos) [e] [] pos) (tJoin K to te) := by
  subst eK
  have := pe_join (X := X) (apos := apos) (pos := pos) ho he hs hbase hline
  unfold tJoin rJoin
  simp only [← TL.join_eq]
  exact this
end
def ixS : D → D → M
  | .str z, .int i => fun Q _ => ∃ c, atI (tl z) i = some c ∧ z.length ≤ 100000 ∧ Q (.str (sgn c))
  | _, _ => stuck
def lenT : List D → M
  | [.str z] => need (z.length ≤ 100000) (ret (.int z.length))
  | _ => stuck
def inT (neg : Bool) : D → D → M
  | .str s, .str z => fun Q _ => ∃ c, s = sgn c ∧ Q (.bl (neg != decide (c ∈ tl z)))
  | _, _ => stuck
def mulT : D → D → M
  | .str z, .int i => need (i = 2 ∧ 1 ≤ z.length ∧ z.length ≤ 1000) (ret (.str (z ++ z)))
  | _, _ => stuck
def slT : D → Option Int → Option Int → M
  | .str z, lo, hi => need (z.length ≤ 100000) (ret (.str (cutS z lo hi)))
  | _, _, _ => stuck
def onS (k : Str → M) : D → M
  | .str a => k a
  | _ => stuck
def joinM (a : Str) : D → M
  | y => fun Q _ => ∃ ys : List Str, (y = .lst (ys.map D.str) ∨ y = .tup (ys.map D.str)) ∧ (ys.map (·.length)).sum + ys.length * a.length ≤ 100000 ∧ Q (.str (Str.join a ys))
def strM : D → MM (List D)
  | .str x => ret ((tl x).map fun c => D.str (sgn c))
  | _ => stuck
section
variable {K : PySem.W.Frag} {O : Ord} {E : XK} {n nr : Nat} {te to : TE} {fe fo : En → M} {Hs H : Hp} {Q : VK}
theorem rpStrs_inv : ∀ {xs : List Str} {vs : List V}, RpA K H vs (xs.map D.str) → vs = xs.map V.str
  | [], _, .nil => rfl
  | x :: xs, _, .cons h r => by
    cases h
    rw [rpStrs_inv (xs := xs) r]
    rfl
instance : OpV K O E n rIxS ixS := ⟨fun Hs H x y dx dy Q o rx ry m => by
  cases dx <;> cases dy <;> first
    | exact Rs.stuck m
    | (cases rx; cases ry
       obtain ⟨Q0, E0, ⟨c, h1, h2, h3⟩, hq, he⟩ := m
       exact ⟨_, _, c, rfl, rfl, le_line h2, h1, hq _ _ H h3 (O.refl H) (.str _) (FrD.nl fun _ z => by cases z)⟩)⟩
instance : CbV K O E n rLenT lenT := ⟨fun Hs H xs ds Q o r m => by
  cases r with
  | nil => exact Rs.stuck m
  | @cons x xs d ds h r =>
    cases r with
    | cons _ _ => cases d <;> exact Rs.stuck m
    | nil =>
      cases d <;> first
        | exact Rs.stuck m
        | (cases h; obtain ⟨h1, m⟩ := m.need; exact ⟨_, rfl, le_line h1, ret_int m⟩)⟩
instance {neg : Bool} : OpV K O E n (rInT neg) (inT neg) := ⟨fun Hs H x y dx dy Q o rx ry m => by
  cases dx <;> cases dy <;> first
    | exact Rs.stuck m
    | (cases rx; cases ry
       obtain ⟨Q0, E0, ⟨c, rfl, h3⟩, hq, he⟩ := m
       exact ⟨c, _, rfl, rfl, hq _ _ H h3 (O.refl H) (.bl _) (FrD.nl fun _ z => by cases z)⟩)⟩
instance : OpV K O E n rMulT mulT := ⟨fun Hs H x y dx dy Q o rx ry m => by
  cases dx <;> cases dy <;> first
    | exact Rs.stuck m
    | (cases rx; cases ry
       obtain ⟨⟨e, h1, h2⟩, m2⟩ := m.need
       subst e
       exact ⟨_, rfl, rfl, h1, h2, ret_str m2⟩)⟩
theorem slT_go {x : V} {d : D} {lo hi : Option Int} (r : Rp K H x d) (m : Rs K O Hs E H n (slT d lo hi) Q) : rSlS x lo hi H Q := by
  cases d <;> first
    | exact Rs.stuck m
    | (cases r; obtain ⟨h1, m⟩ := m.need; exact ⟨_, rfl, le_line h1, ret_str m⟩)
instance {tl' th : TO} {fl fh : En → MM (Option Int)} [a : CV K O E 0 te fe] [b : CVO K O E tl' fl] [c : CVO K O E th fh] : CV K O E n (tSl rSlS te tl' th) (fun ρ => bnd (fe ρ) fun x => bnd (fl ρ) fun lo => bnd (fh ρ) fun hi => slT x lo hi) := ⟨fun Hs okS σ H Q ⟨ρ, r, o, m⟩ =>
  a.go Hs okS σ H _ ⟨ρ, r, o, (m.bnd 0).imp fun v H1 o1 ⟨d, _, rv, _, m1⟩ => b.go Hs okS σ H1 _ ⟨ρ, r.mono (O.ext o1), O.trans o o1, by
    obtain ⟨Q0, E0, hm, hq, he⟩ := m1
    refine ⟨_, E0, hm, fun lo H2 hlo o2 => c.go Hs okS σ H2 _ ⟨ρ, (r.mono (O.ext o1)).mono (O.ext o2), O.trans (O.trans o o1) o2, _, E0, hlo, fun hi H3 hhi o3 => ?_, fun e z => (he e z).mono o2⟩, he⟩
    refine slT_go (E := E) (Hs := Hs) (O := O) (n := n) ((rv.mono (O.ext o2)).mono (O.ext o3)) ⟨Q0, E0, hhi, fun d2 v2 H4 q o4 r4 f4 => hq d2 v2 H4 q (O.trans (O.trans o2 o3) o4) r4 f4, fun e z => ((he e z).mono o2).mono o3⟩⟩⟩⟩
instance [a : CV K O E 0 to fo] [b : CV K O E 0 te fe] : CV K O E n (tJoin K to te) (fun ρ => bnd (fo ρ) (onS fun a => bnd (fe ρ) (joinM a))) := ⟨fun Hs okS σ H Q ⟨ρ, r, o, m⟩ =>
  a.go Hs okS σ H _ ⟨ρ, r, o, (m.bnd 0).imp fun v H1 o1 ⟨d, _, rv, _, m1⟩ => by
    cases d <;> first
      | exact Rs.stuck m1
      | skip
    rename_i a' _
    replace m1 : Rs K O Hs E H1 n (bnd (fe ρ) (joinM a')) Q := m1
    cases rv
    refine ⟨⟨_, rfl⟩, b.go Hs okS σ H1 _ ⟨ρ, r.mono (O.ext o1), O.trans o o1, (m1.bnd 0).imp fun v2 H2 o2 ⟨d2, _, rv2, _, m2⟩ => ?_⟩⟩
    obtain ⟨Q0, E0, ⟨ys, h1, h2, h3⟩, hq, he⟩ := m2
    have fin := hq _ _ H2 h3 (O.refl H2) (.str _) (FrD.nl fun _ z => by cases z)
    have hb : (ys.map (·.length)).sum + ys.length * a'.length ≤ 16777216 := Nat.le_trans h2 (by decide)
    rcases h1 with rfl | rfl
    · cases rv2 with
      | lst g1 g2 =>
        rw [rpStrs_inv g2] at g1
        exact ⟨a', _, ys, rfl, rfl, .inl (SqL.of g1), hb, fin⟩
    · cases rv2 with
      | tup g1 g2 =>
        rw [rpStrs_inv g2] at g1
        exact ⟨a', _, ys, rfl, rfl, .inr g1, hb, fin⟩⟩⟩
theorem itok_str {x : Str} {H : Hp} : ItOk K (Its x) ((tl x).map fun c => D.str (sgn c)) H := fun H' e => by
  have hl : ((tl x).map fun c => D.str (sgn c)).length = x.cps.size := by rw [List.length_map, Array.length_toList]
  refine ⟨fun i hi => by rw [hl] at hi; exact hi, by rw [hl]; exact Nat.le_refl _, fun i v H'' d hd y => ?_⟩
  obtain ⟨rfl, c, h1, rfl⟩ := y
  rw [List.getElem?_map] at hd
  have h2 : (tl x)[i]? = some c := by rw [Array.getElem?_toList]; exact h1
  rw [h2] at hd
  cases hd
  exact ⟨L2.Same.refl _, fun _ _ _ => .str _⟩
instance cvr_str [a : CV K O E 0 te fe] : CVR K O E (iStr te) (fun ρ => bnd (fe ρ) strM) := ⟨fun Hs okS σ H R ⟨ρ, r, o, Q0, E0, hm, hq, he⟩ => a.go Hs okS σ H _ ⟨ρ, r, o, _, E0, hm, fun d v H1 hd o1 rv _ => by
  cases d <;> first
    | exact hd.elim
    | (cases rv; exact ⟨_, rfl, hq _ _ H1 hd o1 fun _ => itok_str⟩), he⟩⟩
end
section
variable {Q : D → Prop} {E : Er → Prop} {Ql : List D → Prop} {z s : Str} {i : Int}
instance : Stp (lenT [.str z] Q E) (z.length ≤ 100000 ∧ Q (.int z.length)) := ⟨id⟩
instance {lo hi : Option Int} : Stp (slT (.str z) lo hi Q E) (z.length ≤ 100000 ∧ Q (.str (cutS z lo hi))) := ⟨id⟩
instance {c : Nat} : Stp (inT false (.str (sgn c)) (.str z) Q E) (Q (.bl (decide (c ∈ tl z)))) := ⟨fun h => ⟨c, rfl, by rw [bne_f]; exact h⟩⟩
instance : Stp (mulT (.str z) (.int i) Q E) ((i = 2 ∧ 1 ≤ z.length ∧ z.length ≤ 1000) ∧ Q (.str (z ++ z))) := ⟨id⟩
instance {k : Str → M} : Stp (onS k (.str z) Q E) (k z Q E) := ⟨id⟩
instance : Stp (strM (.str z) Ql E) (Ql ((tl z).map fun c => D.str (sgn c))) := ⟨id⟩
instance {a b : Str} : Stp (addM (.str a) (.str b) Q E) (a.length + b.length ≤ 100000 ∧ Q (.str (a ++ b))) := ⟨id⟩
end
theorem joinM_ok {a : Str} {ys : List Str} {Q : D → Prop} {E : Er → Prop} (h : (ys.map (·.length)).sum + ys.length * a.length ≤ 100000) (q : Q (.str (Str.join a ys))) : joinM a (.lst (ys.map D.str)) Q E := ⟨ys, .inl rfl, h, q⟩
theorem ixS_ok {z : Str} {i : Int} {c : Nat} {Q : D → Prop} {E : Er → Prop} (h : atI (tl z) i = some c) (hz : z.length ≤ 100000) (q : Q (.str (sgn c))) : ixS (.str z) (.int i) Q E := ⟨c, h, hz, q⟩
end Wk
namespace Wk
open PySem PySem.Spec PyProof.Rows L2
def LETS : Str := "abcdefghijklmnopqrstuvwxyz"
theorem tl_LETS : tl LETS = (List.range 26).map (· + 97) := by decide +kernel
theorem mem_LETS {c : Nat} : c ∈ tl LETS ↔ 97 ≤ c ∧ c ≤ 122 := by
  rw [tl_LETS, List.mem_map]
  constructor
  · rintro ⟨i, hi, rfl⟩
    have := List.mem_range.mp hi
    omega
  · intro h
    exact ⟨c - 97, List.mem_range.mpr (by omega), by omega⟩
theorem at_LETS {i : Int} (h0 : 0 ≤ i) (h1 : i < 26) : atI (tl LETS) i = some (i.toNat + 97) := by
  have h : atI (tl LETS) ((i.toNat : Nat) : Int) = some (i.toNat + 97) := atI_nat (by rw [tl_LETS, List.getElem?_map, List.getElem?_range (by omega)]; rfl)
  rw [Int.toNat_of_nonneg h0] at h
  exact h
def NmOk (x : Str) : Prop := 1 ≤ x.length ∧ x.length ≤ 6 ∧ (∀ c ∈ tl x, 97 ≤ c ∧ c ≤ 122) ∧ x ≠ "all" ∧ x ≠ "some"
theorem tl_join0 : ∀ cs : List Nat, tl (Str.join "" (cs.map sgn)) = cs := fun cs => by
  rw [show tl (Str.join "" (cs.map sgn)) = TL.joinL (TL.tl "") ((cs.map sgn).map TL.tl) from TL.tl_join "" (cs.map sgn)]
  have e0 : TL.tl "" = [] := by decide +kernel
  rw [e0, List.map_map]
  have : ∀ l : List Nat, TL.joinL [] (l.map fun c => [c]) = l := fun l => by
    induction l with
    | nil => rfl
    | cons c l ih =>
      cases l with
      | nil => rfl
      | cons d l =>
        show [c] ++ ([] ++ TL.joinL [] ((d :: l).map fun c => [c])) = _
        rw [ih]
        rfl
  exact this cs
theorem tl_cutS (z : Str) (lo hi : Option Int) : tl (cutS z lo hi) = ((tl z).drop (HT.sIx z.length 0 lo)).take (HT.sIx z.length z.length hi - HT.sIx z.length 0 lo) := rfl
end Wk
namespace Wk
open PySem PySem.Spec PyProof.Rows L2
class StrsC (ds : List D) (xs : outParam (List Str)) : Prop where
  eq : ds = xs.map D.str
instance {xs : List Str} : StrsC (List.map D.str xs) xs := ⟨rfl⟩
instance : StrsC [] [] := ⟨rfl⟩
instance {x : Str} {ds : List D} {xs : List Str} [h : StrsC ds xs] : StrsC (.str x :: ds) (x :: xs) := ⟨by rw [h.eq]; rfl⟩
theorem inD_strs (x : Str) : ∀ xs : List Str, inD (.str x) (xs.map D.str) = decide (x ∈ xs) := fun xs => by
  unfold inD
  rw [List.map_map]
  induction xs with
  | nil => rfl
  | cons y ys ih =>
    have e : inV (V.str x) (((vOf ∘ D.str) y) :: ys.map (vOf ∘ D.str)) = (eqV (.str y) (.str x) || inV (V.str x) (ys.map (vOf ∘ D.str))) := by
      unfold inV
      rfl
    show inV (vOf (.str x)) ((vOf ∘ D.str) y :: ys.map (vOf ∘ D.str)) = _
    have ih' : inV (V.str x) (ys.map (vOf ∘ D.str)) = decide (x ∈ ys) := ih
    rw [show vOf (.str x) = V.str x from rfl, e, ih']
    by_cases h : y = x
    · subst h
      simp [eqV]
    · have h2 : ¬ x = y := fun z => h z.symm
      simp [eqV, h, h2]
theorem scl_strs : ∀ xs : List Str, (xs.map D.str).all sclD = true
  | [] => rfl
  | x :: xs => by rw [List.map_cons, List.all_cons, scl_strs xs]; rfl
section
variable {Q : D → Prop} {E : Er → Prop} {x : Str} {ds : List D} {xs : List Str}
theorem inM_strs {neg : Bool} {y : D} (hy : y = .lst (xs.map D.str) ∨ y = .tup (xs.map D.str)) (q : Q (.bl (neg != decide (x ∈ xs)))) : inM neg (.str x) y Q E := by
  rcases hy with rfl | rfl
  · exact ⟨⟨rfl, scl_strs xs⟩, by show Q (.bl (neg != inD (.str x) (xs.map D.str))); rw [inD_strs]; exact q⟩
  · exact ⟨⟨rfl, scl_strs xs⟩, by show Q (.bl (neg != inD (.str x) (xs.map D.str))); rw [inD_strs]; exact q⟩
instance [h : StrsC ds xs] : Stp (inM false (.str x) (.lst ds) Q E) (Q (.bl (decide (x ∈ xs)))) := ⟨fun q => inM_strs (xs := xs) (.inl (by rw [h.eq])) (by rw [bne_f]; exact q)⟩
instance [h : StrsC ds xs] : Stp (inM true (.str x) (.lst ds) Q E) (Q (.bl (!decide (x ∈ xs)))) := ⟨fun q => inM_strs (xs := xs) (.inl (by rw [h.eq])) (by rw [bne_t]; exact q)⟩
instance [h : StrsC ds xs] : Stp (inM true (.str x) (.tup ds) Q E) (Q (.bl (!decide (x ∈ xs)))) := ⟨fun q => inM_strs (xs := xs) (.inr (by rw [h.eq])) (by rw [bne_t]; exact q)⟩
end
theorem filV_mapS {α : Type} {t : D → MM Bool} {f : D → M} {E : Er → Prop} (g : α → D) (p : α → Bool) (h : α → D) : ∀ {xs : List α} {Q : List D → Prop}, (∀ x ∈ xs, ∀ Q' : Bool → Prop, Q' (p x) → t (g x) Q' E) → (∀ x ∈ xs, p x = true → ∀ Q' : D → Prop, Q' (h x) → f (g x) Q' E) → Q ((xs.filter p).map h) → filV t f (xs.map g) Q E
  | [], Q, _, _, q => q
  | x :: xs, Q, h1, h2, q => by
    refine h1 x List.mem_cons_self _ ?_
    show (if p x = true then _ else _ : MM (List D)) Q E
    by_cases hp : p x = true
    · rw [if_pos hp]
      refine h2 x List.mem_cons_self hp _ ?_
      show filV t f (xs.map g) (fun ys => Q (h x :: ys)) E
      refine filV_mapS g p h (fun y hy => h1 y (List.mem_cons_of_mem _ hy)) (fun y hy => h2 y (List.mem_cons_of_mem _ hy)) ?_
      rw [List.filter_cons_of_pos hp] at q
      exact q
    · rw [if_neg hp]
      refine filV_mapS g p h (fun y hy => h1 y (List.mem_cons_of_mem _ hy)) (fun y hy => h2 y (List.mem_cons_of_mem _ hy)) ?_
      rw [List.filter_cons_of_neg hp] at q
      exact q
theorem mapV_map {α : Type} {f : D → M} {E : Er → Prop} (g h : α → D) {xs : List α} {Ql : List D → Prop} (hx : ∀ a ∈ xs, ∀ Q' : D → Prop, Q' (h a) → f (g a) Q' E) (q : Ql (xs.map h)) : mapV f (xs.map g) Ql E := by
  induction xs generalizing Ql with
  | nil => exact q
  | cons a xs ih => exact hx a List.mem_cons_self _ (ih (fun b hb => hx b (List.mem_cons_of_mem _ hb)) q)
end Wk
namespace Wk
open PySem PySem.Spec PyProof.Rows L2
theorem nodup_sub {α : Type} [DecidableEq α] : ∀ {l t : List α}, l.Nodup → (∀ x ∈ l, x ∈ t) → l.length ≤ t.length
  | [], _, _, _ => Nat.zero_le _
  | x :: l, t, hn, hs => by
    have hn' := List.nodup_cons.mp hn
    have hx := hs x List.mem_cons_self
    have ih := nodup_sub (l := l) (t := t.erase x) hn'.2 fun y hy => (List.mem_erase_of_ne fun z : y = x => hn'.1 (z ▸ hy)).mpr (hs y (List.mem_cons_of_mem _ hy))
    rw [List.length_erase_of_mem hx] at ih
    have := List.length_pos_of_mem hx
    rw [List.length_cons]
    omega
theorem sgn_inj {a b : Nat} (h : sgn a ++ sgn a = sgn b ++ sgn b) : a = b := by
  have := congrArg tl h
  rw [tl_app, tl_app, tl_sgn, tl_sgn] at this
  simpa using this
theorem free_double {taken : List Str} (h : taken.length ≤ 10) : (tl LETS).filter (fun c => !decide (sgn c ++ sgn c ∈ taken)) ≠ [] := fun z => by
  have hall : ∀ c ∈ tl LETS, sgn c ++ sgn c ∈ taken := fun c hc => by
    have := List.filter_eq_nil_iff.mp z c hc
    simpa using this
  have hn : ((tl LETS).map fun c => sgn c ++ sgn c).Nodup := by
    rw [tl_LETS, List.map_map]
    refine List.Pairwise.map _ (fun a b hab e => hab ?_) (List.nodup_range (n := 26))
    have h : a + 97 = b + 97 := sgn_inj e
    omega
  have := nodup_sub hn fun x hx => by
    obtain ⟨c, hc, rfl⟩ := List.mem_map.mp hx
    exact hall c hc
  rw [List.length_map, tl_LETS, List.length_map, List.length_range] at this
  omega
end Wk

set_option Elab.async false
set_option linter.all false
set_option maxRecDepth 100000
set_option maxHeartbeats 4000000
namespace Wk
open PySem PySem.Spec PyProof.Rows L2
section
variable {K : PySem.W.Frag} {O : Ord} {E : XK} {nr : Nat}
def tParO (i j : Nat) : TS := tPar i j (tCons (tLst tNil) (tCons (tLst tNil) tNil))
theorem ps_own2 {X : Cx} {st : Stmt} {i j : Nat} (h : PS X st (tPar i j (tCons (tLst tNil) (tCons (tLst tNil) tNil)))) : PS X st (tParO i j) := h
def vParO (i j : Nat) : Ks → En → Prop := fun k ρ => k.nx ((ρ.set i (.ow [])).set j (.ow []))
instance {i j : Nat} : CVS K O E nr (tParO i j) (vParO i j) := ⟨fun Hr Hs okS okR D σ H ⟨ρ, k, as, H00, R, h, hn, hr, hb, hc, he⟩ => by
  refine ⟨Nat.zero_le _, fun p hp => ⟨Nat.zero_le _, fun q hq => ⟨_, _, rfl, ?_⟩⟩⟩
  have R1 := R.add (i := i) (ds := []) (O.same (same_new hp)) (NL.of hp) upd_same .nil rfl
  have R2 := R1.add (i := j) (ds := []) (O.same (same_new hq)) (NL.of hq) upd_same .nil rfl
  exact hn _ _ _ _ H00 h R2⟩
section
variable {nx bk ct : En → Prop} {rt : D → Prop} {ex : Er → Prop} {ρ ρ1 ρ2 : En} {i j : Nat}
instance [a : NfE (List.set ρ i (.ow [])) ρ1] [b : NfE (List.set ρ1 j (.ow [])) ρ2] : Stp (vParO i j ⟨nx, rt, bk, ct, ex⟩ ρ) (nx ρ2) := ⟨fun h => by show nx ((ρ.set i (.ow [])).set j (.ow [])); rw [a.eq, b.eq]; exact h⟩
end
theorem fnV_cut {t u : TS} {f : Ks → En → Prop} {H : Hp} {vs : List V} {Q : VK} {Ns : List Str} {N : Nat} {m : List D → M} [c : CVS K OSame E nr t f] (hs : spV K nr N m vs H Q E) (P : (D → Prop) → (Er → Prop) → En → Prop)
    (h : ∀ ds Q0 E0, ds.length = N → m ds Q0 E0 → f ⟨P Q0 E0, Q0, fun _ => False, fun _ => False, E0⟩ (startE Ns.length ds))
    (hu : ∀ Q0 E0 ρ σ H' as H0', P Q0 E0 ρ → RelB K OSame H H H' σ ρ as H0' → (∀ d v H2, Q0 d → L2.Same H H2 → Rp K H2 v d → FrD H H2 nr v d → Q v H2) → u { nx := fun _ H' => Q .non H', rt := Q } σ H') :
    tSeq t u { nx := fun _ H' => Q .non H', rt := Q } (L2.start Ns vs) H := by
  obtain ⟨ds, hl, r, Q0, E0, hm, hq, he⟩ := hs
  exact c.go H H True.intro True.intro _ _ H ⟨startE Ns.length ds, _, [], H, relB_start r, h ds Q0 E0 hl hm, fun ρ' σ' H' as' H0' hn R => hu Q0 E0 ρ' σ' H' as' H0' hn R fun d v H2 hd o rv fv => hq d v H2 hd o rv fv, fun d v H' hd o rv fv => hq d v H' hd o rv fv, fun _ _ _ _ _ z => z.elim, fun _ _ _ _ _ z => z.elim, he⟩
theorem seq_in {t u w : TS} {D : Ends} {σ : L2.St} {H : Hp} (h : tSeq (tSeq t u) w D σ H) : tSeq t (tSeq u w) D σ H := h
end
structure SayOk (most times : Nat) (s : Say) : Prop where
  len : 1 ≤ s.front.length ∧ s.front.length ≤ most
  nm : ∀ p ∈ s.front, NmOk p.2
  nd : (s.front.map (·.2)).Nodup
  parts : s.body.parts ≤ 24
  deep : s.body.deep ≤ 6
  nms : ∀ x ∈ s.body.names, x ∈ s.front.map (·.2)
  oft : ∀ x ∈ s.front.map (·.2), s.body.often x ≤ times
theorem cntK_snoc {names : List Str} {x : Str} (h : x ∉ names) : putK (cntK names fun _ => 0) (.inr x) (.int 0) = cntK (names ++ [x]) fun _ => 0 := by
  have hv : valV (cntK names fun _ => 0) (.inr x) = none := by
    induction names with
    | nil => rfl
    | cons y ys ih =>
      show valV (((Sum.inr y : Key), V.int 0) :: cntK ys fun _ => 0) (.inr x) = none
      rw [valV_neg (by intro z; injection z with z; exact h (by rw [z]; exact List.mem_cons_self))]
      exact ih fun z => h (List.mem_cons_of_mem _ z)
  rw [putK_new _ hv]
  unfold cntK
  rw [List.map_append]
  rfl
theorem take_snoc' {α : Type} {l : List α} {i : Nat} {x : α} (h : l[i]? = some x) : l.take (i + 1) = l.take i ++ [x] := by
  obtain ⟨hi, rfl⟩ := List.getElem?_eq_some_iff.mp h
  exact List.take_succ_eq_append_getElem hi
theorem nodup_snoc {α : Type} {l : List α} {x : α} (hn : l.Nodup) (h : x ∉ l) : (l ++ [x]).Nodup := by
  rw [List.nodup_append]
  exact ⟨hn, by simp, fun a ha b hb e => by rw [List.mem_singleton.mp hb] at e; exact h (e ▸ ha)⟩
theorem nodup_at {α : Type} {l : List α} {i : Nat} {x : α} (hn : l.Nodup) (h : l[i]? = some x) : x ∉ l.take i := fun hm => by
  obtain ⟨hi, rfl⟩ := List.getElem?_eq_some_iff.mp h
  obtain ⟨j, hj, e⟩ := List.getElem_of_mem hm
  rw [List.length_take] at hj
  rw [List.getElem_take] at e
  have hj2 : j < i := by omega
  exact (List.pairwise_iff_getElem.mp hn) j i (by omega) hi hj2 e
end Wk

set_option Elab.async false
set_option linter.all false
set_option maxRecDepth 100000
set_option maxHeartbeats 4000000
namespace Wk
open PySem PySem.Spec PyProof.Rows L2 PpSet
section
variable {X : Cx}
abbrev set0 (P : Program) (w : World) (D : Addr) : HO := SetK P w D (fun _ => false) 0
abbrev set1 (P : Program) (w : World) (D : Addr) (S : Key → Bool) (n : Nat) (k : Key) : HO := SetK P w D (fun j => S j || decide (j = k)) (if S k = true then n else n + 1)
abbrev emptySet (w : World) : Obj := { cls := .type "set", dict := none, data := .set #[] 0 (.fresh 0 0 (!w.params.followText "set-order")) }
theorem empty_ok {P : Program} {w : World} {hp : Heap} : (hp.push (emptySet w)).SetOf (mixKind P w) hp.objs.size (fun _ => false) 0 :=
  ⟨_, #[], 0, _, Heap.get?_push_size _ rfl, ⟨rfl, rfl, rfl⟩, rfl, (fun e he => by simp at he), (fun k => by simp), (by decide), (by rfl), rfl⟩
theorem addK_ok {pn : List (Addr × Obj)} {σ : L2.St} {H : Hp} {s : Shared} {Ex : Value → Shared → Prop} {D : Addr} {S : Key → Bool} {n : Nat} {k : Key} {z : Value} {Q : Value → Shared → Prop} (J : Inv X pn σ H s) (rz : RelV (kV k) z) (hD : H D = some (SetK X.prog X.w D S n)) (room : n + 1 < scanBound)
    (q : ∀ s', Inv X pn σ (upd H D (set1 X.prog X.w D S n k)) s' → Q .none s') : wpAny (model X.prog X.w) X.A (call (.builtin "set.add") [.ref D, z]) Q Ex s := by
  refine call_set_add (kV_is rz) (key_scan rz) (setK_get J hD) room fun hp sb new => ?_
  have there : ∃ u, hp.get? D = some u := by
    obtain ⟨o, _, _, _, ho, _⟩ := new
    exact ⟨o, ho⟩
  exact q _ (J.write (e := D) (t' := s.toks + 1) (by rw [hD]; trivial) (.inl rfl) (fun b u hb hu => (sb.2 b hb).trans hu) there (setK_new new))
def tScK (P : Program) (w : World) (wi : TI) (g : TG) (tt : TT) (te : TE) (vs : List Nat) : TE := fun σ H Q => wi σ H fun J H1 => ∀ D, H1 D = none → ∃ Wd : Nat → Nat → Hp → Prop, (∃ m, Wd 0 m (upd H1 D (set0 P w D))) ∧ ∀ i m H, Wd i m H →
  (J.stop i H ∧ Q (.ref D) H) ∨ (J.go i H ∧ ∃ Nx : Hp → Prop, (∀ H', Nx H' → ∃ m', m' < m ∧ Wd (i + 1) m' H') ∧ ∀ x H', J.yld i H x H' → g x (wipe σ vs) H' fun σ2 H2 => wipe σ2 vs = wipe σ vs ∧ tt σ2 H2 fun b H3 =>
    if b = true then te σ2 H3 fun y H4 => ∃ (k : Key) (S : Key → Bool) (n : Nat), y = kV k ∧ H4 D = some (SetK P w D S n) ∧ n + 1 < scanBound ∧ Nx (upd H4 D (set1 P w D S n k)) else Nx H3)
theorem sck_core {pn : List (Addr × Obj)} {s0 : Shared} {σ : L2.St} {Ha : Hp} {Q : VK} {elt tg iter : Expr} {ifs : List Expr} {sc : Scope} {own : List (Str × Nat)} {pos pos' : Pos} {wi : TI} {g : TG} {tt : TT} {te : TE} {use : Option (Value → Sem Unit)} {Qf : Value → Shared → Prop}
    (hc : X.calm = true) (hN : X.N.Nodup) (J0 : Inv X pn σ Ha s0) (hi : PI X tg iter wi) (ok : BlkOk X.N X.env.scope sc own)
    (hg : ∀ (s : Shared) (H : Hp) (C : Addr) (cl : List (Str × Addr)) (fp : List Addr), PG (X.blk s H sc (compEnvC sc cl C X.env) fp) tg g) (ht : ∀ (s : Shared) (H : Hp) (C : Addr) (cl : List (Str × Addr)) (fp : List Addr), PTs (X.blk s H sc (compEnvC sc cl C X.env) fp) ifs tt)
    (he : ∀ (s : Shared) (H : Hp) (C : Addr) (cl : List (Str × Addr)) (fp : List Addr), PE (X.blk s H sc (compEnvC sc cl C X.env) fp) elt te) (hs : ∀ x, foldedSetIterable iter X.env x = pure x)
    (h : tScK X.prog X.w wi g tt te (own.map (·.2)) σ Ha Q)
    (fin : ∀ D C s' m H', Inv X pn σ H' s' → Q (.ref D) H' → s'.heap.Ns C m → FpOk X pn H' C → compPost (model X.prog X.w) X.A X.xe use Qf (.ref D) C (.ok .next) s') :
    wpAny (model X.prog X.w) X.A (comprehension (.SetComp elt [⟨tg, iter, ifs, 0⟩] sc pos) sc X.env pos' (newSet (.type "set")) false (eval iter X.env) use) Qf X.xe s0 := by
  have frees : ∀ y ∈ sc.names, y.2 = .free → ∃ c, X.env.cells.lookup y.1 = some c := fun y hy e => (ok.free y hy e).elim (fun k => J0.ok.has _ (.inl k)) fun k => J0.ok.has _ (.inr k)
  refine wpAny_comprehension_free (use := use) rfl hs (closure_ok frees) ok.kind (fun y hy e => by rw [ok.uniq y hy, e]) (thn (hi.run pn s0 σ Ha _ J0 h) fun xv sa hx => thn hx fun itv sb hb => ?_)
  obtain ⟨it, fp, tn, Jt, Hb, e, Jb, Tn, stb, fb, q⟩ := hb
  subst e
  refine newSet_ok (newEnv_comp ?_)
  generalize eD : sb.heap.objs.size = D
  have nD : Hb D = none := Jb.hok.fresh (Nat.le_of_eq eD)
  obtain ⟨Wd, ⟨m0, w0⟩, turn⟩ := q D nD
  generalize esc : ({ sb with heap := sb.heap.push (emptySet X.w) } : Shared) = sd
  have hsd : sd.heap = sb.heap.push (emptySet X.w) := by rw [← esc]
  have Jd : Inv X pn σ (upd Hb D (set0 X.prog X.w D)) sd := by
    rw [← esc]
    refine Jb.laid (t' := sb.toks) (fun b o z => Heap.get?_push_of_some _ z) (Nat.le_of_eq eD) ?_
    rw [← eD]
    exact setK_new empty_ok
  have lt : ∀ b ∈ fp, b < sb.heap.objs.size := fun b hb => by
    obtain ⟨o, z, _⟩ := Tn.obj _ _ stb b hb
    exact Heap.lt_size z
  have fd : ∀ b ∈ fp, FpOk X pn (upd Hb D (set0 X.prog X.w D)) b ∧ b < sd.heap.objs.size := fun b hb => by
    have hlt := lt b hb
    refine ⟨⟨?_, (fb b hb).2⟩, by rw [hsd, Heap.size_push]; exact Nat.lt_succ_of_lt hlt⟩
    rw [upd_ne (by rw [← eD]; exact Nat.ne_of_lt hlt)]
    exact (fb b hb).1
  have std : tn 0 sd.heap := Tn.keep _ _ _ stb fun b _ o z => by rw [hsd]; exact Heap.get?_push_of_some _ z
  have Je := block_start Jd ok hN fd
  generalize eHd : upd Hb D (set0 X.prog X.w D) = Hd at Jd Je w0 fd
  have pg := hg sd Hd sd.heap.objs.size (cellsFrom (sd.heap.objs.size + 1) sc.names (cloFrom X.env.cells sc.names [])) fp
  have pt := ht sd Hd sd.heap.objs.size (cellsFrom (sd.heap.objs.size + 1) sc.names (cloFrom X.env.cells sc.names [])) fp
  have pe := he sd Hd sd.heap.objs.size (cellsFrom (sd.heap.objs.size + 1) sc.names (cloFrom X.env.cells sc.names [])) fp
  show codeAny _ _ (.compStart (.SetComp elt [⟨tg, iter, ifs, 0⟩] sc pos) 0 (.ref it) (.ref D) (compEnvC sc (cellsFrom (sd.heap.objs.size + 1) sc.names (cloFrom X.env.cells sc.names [])) sd.heap.objs.size X.env)) (compPost (model X.prog X.w) X.A X.xe use Qf (.ref D) sd.heap.objs.size) { sd with heap := pushCells (sd.heap.push { cls := .type "dict", data := .dict #[] }) sc.names }
  have nfp : ∀ b ∈ fp, Hd b = none := fun b hb => (fd b hb).1.1
  generalize ece : compEnvC sc (cellsFrom (sd.heap.objs.size + 1) sc.names (cloFrom X.env.cells sc.names [])) sd.heap.objs.size X.env = ce at Je pg pt pe ⊢
  have cL : ce.locals = sd.heap.objs.size := by subst ece; rfl
  generalize ese : ({ sd with heap := pushCells (sd.heap.push { cls := .type "dict", data := .dict #[] }) sc.names } : Shared) = se at Je ⊢
  have ste : tn 0 se.heap := Tn.keep _ _ _ std fun b _ o z => by rw [← ese]; exact pushCells_keeps _ _ _ _ (Heap.get?_push_of_some _ z)
  have stat : ∀ {σ' : L2.St} {H' : Hp} {s' : Shared}, Inv (X.blk sd Hd sc ce fp) [] σ' H' s' → (∀ b ∈ fp, H' b = none) → ∀ b ∈ fp, FpOk (X.blk sd Hd sc ce fp) [] H' b := fun {σ' H' s'} J' hn b hb =>
    ⟨hn b hb, (J'.ok.exf b hb).1, J'.ok.exfs b hb, .inl hb, fun x c z => (J'.ok.exf b hb).2 x c z, fun p hp => absurd (show p ∈ ([] : List (Addr × Obj)) ++ [] from hp) (by simp)⟩
  have loop : codeAny (model X.prog X.w) X.A (.compLoop (.SetComp elt [⟨tg, iter, ifs, 0⟩] sc pos) 0 (.ref it) (.ref D) ce) (compPost (model X.prog X.w) X.A X.xe use Qf (.ref D) sd.heap.objs.size) se := by
    refine compLoopS_any (fun n s' => ∃ i H', Inv (X.blk sd Hd sc ce fp) [] (wipe σ (own.map (·.2))) H' s' ∧ tn i s'.heap ∧ (∀ b ∈ fp, H' b = none) ∧ Wd i n H') ?_ m0 ⟨0, Hd, Je, ste, nfp, w0⟩
    rintro n sf ⟨i, Hf, Jf, stf, nf, wf⟩
    rcases turn i n Hf wf with ⟨stop, qq⟩ | ⟨go, Nx, hNx, step⟩
    · refine thnF (Tn.done (X.blk sd Hd sc ce fp) rfl rfl rfl hc i [] sf _ Hf (fun _ _ => False) Jf (stat Jf nf) stf stop) fun r sg ⟨hr, Jg⟩ => ?_
      subst hr
      have Jh : Inv X pn σ Hf sg := Jd.call' (ch := fp) Jg.os Jg.base Jg.hok Jg.bare fun b hb =>
        ⟨(fd b hb).1.2.2.2.1, (fd b hb).1.2.1, (fd b hb).1.2.2.2.2.1, (fd b hb).1.2.2.2.2.2⟩
      have nC : Hf sd.heap.objs.size = none := by rw [← cL]; exact Jg.free
      obtain ⟨m, hn, _⟩ := Jg.loc
      replace hn : sg.heap.Ns ce.locals m := hn
      rw [cL] at hn
      exact fin D sd.heap.objs.size sg m Hf Jh qq hn (Jd.fpOk (Nat.le_refl _) nC)
    · refine thnF (Tn.item (X.blk sd Hd sc ce fp) rfl rfl rfl hc i [] sf _ Hf (fun _ _ => False) Jf (stat Jf nf) stf go) fun r sg ⟨u, hr, hg'⟩ => ?_
      subst hr
      refine thnF hg' fun _ sh ⟨x, Hh, Jh, rh, yh, sth, nh⟩ => ?_
      have Jp := Jh.pinned (stat Jh nh) (Tn.obj _ _ sth)
      refine thnF (pg.run _ sh _ Hh x u _ Jp rh (step x Hh yh)) fun _ si ⟨σi, Hi, Ji, wi', qi⟩ => ?_
      refine thnF (pt.run _ si σi Hi _ Ji qi) fun b sj ⟨Hj, Jj, qj⟩ => ?_
      have last : ∀ {s' : Shared} {H' : Hp}, Inv (X.blk sd Hd sc ce fp) ([] ++ pinsAt fp sh.heap) σi H' s' → Nx H' → ∃ m, m < n ∧ ∃ i H', Inv (X.blk sd Hd sc ce fp) [] (wipe σ (own.map (·.2))) H' s' ∧ tn i s'.heap ∧ (∀ b ∈ fp, H' b = none) ∧ Wd i m H' := fun {s' H'} J' nx => by
        obtain ⟨m', hm, w'⟩ := hNx H' nx
        have pin' : ∀ b ∈ fp, ∀ o, sh.heap.get? b = some o → s'.heap.get? b = some o ∧ H' b = none := fun b hb o z =>
          have z2 := J'.pin (b, o) (List.mem_append_right _ (List.mem_append_right _ (mem_pinsAt hb z)))
          ⟨z2.1, z2.2.1⟩
        have hl : (wipe σ (own.map (·.2))).length = σi.length := by rw [← wi', wipe_length]
        refine ⟨m', hm, i + 1, H', (J'.unpinned (pins := [])).weak hl (fun j v z => ?_), Tn.keep _ _ _ sth fun b hb o z => (pin' b hb o z).1, fun b hb => ?_, w'⟩
        · rw [← wi'] at z
          exact (wipe_some z).1
        · obtain ⟨o, z, _⟩ := Tn.obj _ _ sth b hb
          exact (pin' b hb o z).2
      cases b with
      | false =>
        simp only [Bool.false_eq_true, if_false] at qj ⊢
        exact last Jj qj
      | true =>
        simp only [if_true] at qj ⊢
        refine thnF (pe.run _ sj σi Hj _ Jj qj) fun z sk ⟨yv, Hk, Jk, rk, k, S0, n0, ey, hDk, hzk, nx⟩ => ?_
        subst ey
        exact addK_ok (X := X.blk sd Hd sc ce fp) Jk rk hDk hzk fun sl Jl => last Jl nx
  exact codeAny_compStart_set loop (Tn.self X.A 0 _ _ _ ste loop)
theorem pe_scK {elt tg iter : Expr} {ifs : List Expr} {sc : Scope} {own : List (Str × Nat)} {pos : Pos} {wi : TI} {g : TG} {tt : TT} {te : TE} (vs : List Nat) (hc : X.calm = true) (hN : X.N.Nodup) (hi : PI X tg iter wi) (ok : BlkOk X.N X.env.scope sc own)
    (hg : ∀ (s : Shared) (H : Hp) (C : Addr) (cl : List (Str × Addr)) (fp : List Addr), PG (X.blk s H sc (compEnvC sc cl C X.env) fp) tg g) (ht : ∀ (s : Shared) (H : Hp) (C : Addr) (cl : List (Str × Addr)) (fp : List Addr), PTs (X.blk s H sc (compEnvC sc cl C X.env) fp) ifs tt)
    (he : ∀ (s : Shared) (H : Hp) (C : Addr) (cl : List (Str × Addr)) (fp : List Addr), PE (X.blk s H sc (compEnvC sc cl C X.env) fp) elt te) (hv : own.map (·.2) = vs := by rfl) (hs : ∀ x, foldedSetIterable iter X.env x = pure x := by intro _; rfl) :
    PE X (.SetComp elt [⟨tg, iter, ifs, 0⟩] sc pos) (tScK X.prog X.w wi g tt te vs) := by
  subst hv
  refine ⟨fun pn s σ H Q J h => ?_⟩
  rw [eval_SetComp]
  refine sck_core hc hN J hi ok hg ht he hs h fun D C s' m H' J' q hn f => ⟨m, hn, fun h'' sb => ?_⟩
  obtain ⟨f0, f1, f2, f3, f4, f5⟩ := f
  exact ⟨.ref D, H', J'.turned (t' := s'.toks) (fun b o hb z => (sb.2 b hb).trans z) f0 f1 f3 f4 f5, rfl, q⟩
def rLenK (P : Program) (w : World) : List V → Hp → VK → Prop := fun xs H Q => ∃ a S n, xs = [.ref a] ∧ H a = some (SetK P w a S n) ∧ n ≤ 100000 ∧ Q (.int (n : Int)) H
theorem call_lenK : CallR X (.builtin "len") (rLenK X.prog X.w) := by
  intro pn s σ H xs us Q J r h
  obtain ⟨a, S, n, rfl, ha, hn, q⟩ := h
  obtain ⟨u, rfl, rx⟩ := vals1 r
  cases rx
  obtain ⟨o, es, ep, t, ho, hex, hd, _, _, _, hf, hsz⟩ := setK_get J ha
  subst hsz
  exact call_len_set ho hex hd hf (by omega) ⟨.int _, H, J.tok _, ⟨_, rfl⟩, q⟩
end
section
variable {K : PySem.W.Frag} {O : Ord} {E : XK} {n : Nat} {wi : TI} {g : TG} {vs : List Nat} {fi : En → MM (List D)} {u : D → Option (List (Nat × D))}
def GrowO (O : Ord) (H1 : Hp) (D : Addr) (ob : HO) (B : Hp) (H' : Hp) : Prop := H' = upd B D ob ∧ B D = none ∧ O.r H1 B
theorem GrowO.ext {H1 H' B : Hp} {D : Addr} {ob : HO} (w : GrowO O H1 D ob B H') : LamX.ExtN H1 H' := by
  obtain ⟨rfl, hB, o⟩ := w
  exact LamX.ExtN.trans (O.ext o) (LamX.ExtN.of (same_new hB))
theorem GrowO.yields {H1 H' H'' B : Hp} {D : Addr} {ob : HO} (w : GrowO O H1 D ob B H') (s : L2.Same H' H'') : ∃ B', GrowO O H1 D ob B' H'' ∧ L2.Same B B' ∧ L2.Same B' H'' ∧ ∀ b o, H' b = none → H'' b = some o → B' b = some o := by
  obtain ⟨rfl, hB, o⟩ := w
  have h1 : H'' D = some ob := s _ _ upd_same
  have h2 : L2.Same B (hid H'' D) := fun b x e => by
    have hb : b ≠ D := ne_of_none e hB
    rw [hid_ne hb]
    exact s b x (by rw [upd_ne hb]; exact e)
  refine ⟨hid H'' D, ⟨?_, hid_same, O.trans o (O.same h2)⟩, h2, hid_le, fun b x hb hx => ?_⟩
  · funext b
    by_cases e : b = D
    · rw [e, upd_same, h1]
    · rw [upd_ne e, hid_ne e]
  · have hbp : b ≠ D := fun z => by
      rw [z, upd_same] at hb
      cases hb
    rw [hid_ne hbp]
    exact hx
theorem rd_at {K : PySem.W.Frag} (O : Ord) (E : XK) {Hs B : Hp} {σ : L2.St} {ρ : En} {i : Nat} {Q0 : D → Prop} (r : RelS K Hs B σ ρ) (h : rd ρ i Q0 fun _ => False) : ∃ v d, σ[i]? = some (some v) ∧ Q0 d ∧ Rp K B v d := by
  obtain ⟨v, h1, d, h2, h3⟩ := r.rd (O := O) (E := E) (Q := fun v H' => ∃ d, Q0 d ∧ Rp K H' v d) ⟨Q0, fun _ => False, h, fun d v H' hd _ rv _ => ⟨d, hd, rv⟩, fun _ z => z.elim⟩
  exact ⟨v, d, h1, h2, h3⟩
def disL (a : List Str) (x : Str) : List Str := if x ∈ a then a else a ++ [x]
def disN (ss : List Str) : Nat := (ss.foldl disL []).length
def rdStr (i : Nat) (ρ : En) : M := bnd (rd ρ i) (onS fun a => ret (.str a))
def lenScM (vs : List Nat) (fi : En → MM (List D)) (u : D → Option (List (Nat × D))) (i : Nat) : En → M := fun ρ => bnd (fi ρ) fun xs => need (xs.length ≤ 1000) (bnd (mapV (elV vs u (rdStr i) ρ) xs) fun ys => fun Q _ => ∃ ss : List Str, ys = ss.map D.str ∧ Q (.int (disN ss : Nat)))
def memK (l : List Str) : Key → Bool
  | .inl _ => false
  | .inr x => decide (x ∈ l)
def setS (P : Program) (w : World) (A : Addr) (l : List Str) : HO := SetK P w A (memK l) l.length
theorem setS_nil {P : Program} {w : World} {A : Addr} : set0 P w A = setS P w A [] := by
  unfold setS set0
  congr 1
  funext j
  cases j <;> rfl
theorem setS_add {P : Program} {w : World} {A : Addr} {l : List Str} {x : Str} : set1 P w A (memK l) l.length (.inr x) = setS P w A (disL l x) := by
  unfold setS set1 disL
  have hx : memK l (.inr x) = decide (x ∈ l) := rfl
  by_cases h : x ∈ l
  · rw [if_pos h, hx, if_pos (decide_eq_true h)]
    congr 1
    funext j
    by_cases hj : j = .inr x
    · subst hj
      rw [hx, decide_eq_true h]
      rfl
    · rw [decide_eq_false hj, Bool.or_false]
  · rw [if_neg h, hx, if_neg (by rw [decide_eq_false h]; exact Bool.false_ne_true), List.length_append]
    congr 1
    funext j
    cases j with
    | inl n => simp [memK]
    | inr y => simp [memK]
theorem disL_len {l : List Str} {x : Str} : (disL l x).length ≤ l.length + 1 := by
  unfold disL
  by_cases h : x ∈ l
  · rw [if_pos h]; omega
  · rw [if_neg h, List.length_append]; exact Nat.le_refl _
instance {P : Program} {w : World} {i : Nat} [a : CVI K O E wi fi] [c : CVG K g u] : CV K O E n (tCB (rLenK P w) (tCons (tScK P w wi g tYes (tVar i) vs) tNil)) (lenScM vs fi u i) := ⟨fun Hs okS σ H Q h => by
  obtain ⟨ρ, r, o, Q0, E0', hm, hq, he⟩ := h
  refine a.go Hs okS σ H _ ⟨ρ, r, o, _, E0', hm, fun xs J H1 ⟨hz, hx⟩ o1 ok => ?_, he⟩
  intro A hD
  let Pv : Nat → Hp → Prop := fun j H' => ∃ (es : List D) (B : Hp), mapV (elV vs u (rdStr i) ρ) (xs.drop j) (fun ys => ∃ ss : List Str, es ++ ys = ss.map D.str ∧ Q0 (.int (disN ss : Nat))) E0' ∧ es.length + (xs.drop j).length = xs.length ∧
    ((∃ ts : List Str, es = ts.map D.str ∧ GrowO O H1 A (setS P w A (ts.foldl disL [])) B H' ∧ (ts.foldl disL []).length ≤ ts.length))
  have wk := ok.walk
  refine ⟨fun j m H' => m = xs.length - j ∧ j ≤ xs.length ∧ Pv j H', ⟨xs.length, by simp, Nat.zero_le _, [], H1, hx, by simp, [], rfl, ⟨by rw [setS_nil]; rfl, hD, O.refl H1⟩, Nat.le_refl _⟩, ?_⟩
  rintro j m H' ⟨rfl, hj, es, B, hS, hl, ts, rfl, w, htl⟩
  by_cases hlt : j < xs.length
  · refine .inr ⟨wk.goes j H' hlt w.ext, fun H'' => Pv (j + 1) H'', fun H'' p => ⟨xs.length - (j + 1), by omega, rfl, hlt, p⟩, fun x H'' y => ?_⟩
    obtain ⟨sm, d, hd', rv⟩ := wk.yields j H' x H'' hlt w.ext y
    have e : xs.drop j = d :: xs.drop (j + 1) := by
      rw [List.drop_eq_getElem_cons hlt]
      have := List.getElem?_eq_getElem hlt
      rw [hd'] at this
      rw [Option.some.inj this]
    rw [e] at hS hl
    obtain ⟨ps, h1, h2, h3⟩ := hS
    obtain ⟨B', w', sB, s2, hnew⟩ := w.yields sm
    refine c.go x d B' H'' _ _ ps s2 (rv B' (O.ext w'.2.2) hnew) h1 fun qs up => ?_
    refine ⟨?_, g_yes (g_iteT ?_)⟩
    · rw [wipe_setV up h2]
      exact wipe_wipe vs fun _ z => z
    · have rel := ((r.mono (O.ext (O.trans o1 w'.2.2))).wipe vs).setM up
      obtain ⟨v, dd, g1, g2, g3⟩ := rd_at O E rel h3
      refine ⟨v, g1, ?_⟩
      obtain ⟨x, rfl⟩ : ∃ x, dd = .str x := by cases dd <;> first | exact ⟨_, rfl⟩ | exact g2.elim
      cases g3
      have e2 : (fun ys => ∃ ss : List Str, ts.map D.str ++ .str x :: ys = ss.map D.str ∧ Q0 (.int (disN ss : Nat))) = fun ys => ∃ ss : List Str, (ts ++ [x]).map D.str ++ ys = ss.map D.str ∧ Q0 (.int (disN ss : Nat)) := by
        funext ys
        rw [List.map_append, List.append_assoc]
        rfl
      have g2' : mapV (elV vs u (rdStr i) ρ) (xs.drop (j + 1)) (fun ys => ∃ ss : List Str, (ts ++ [x]).map D.str ++ ys = ss.map D.str ∧ Q0 (.int (disN ss : Nat))) E0' := by
        rw [← e2]
        exact g2
      have hl' := hl
      rw [List.length_map, List.length_cons] at hl'
      have hf : (ts ++ [x]).foldl disL [] = disL (ts.foldl disL []) x := by rw [List.foldl_append]; rfl
      refine ⟨.inr x, memK (ts.foldl disL []), (ts.foldl disL []).length, rfl, by rw [w'.1]; exact upd_same, ?_, (ts ++ [x]).map D.str, B', g2', ?_, ts ++ [x], rfl, ⟨?_, w'.2.1, w'.2.2⟩, ?_⟩
      · have : scanBound = 4096 := by decide
        omega
      · rw [List.length_map, List.length_append]
        simp only [List.length_singleton]
        omega
      · rw [w'.1, upd_upd, setS_add, hf]
      · rw [hf, List.length_append]
        have := disL_len (l := ts.foldl disL []) (x := x)
        simp only [List.length_singleton]
        omega
  · have ej : j = xs.length := by omega
    subst ej
    rw [List.drop_length] at hS
    obtain ⟨ss, h1, h2⟩ := hS
    rw [List.append_nil] at h1
    have e3 : ts = ss := by
      have := congrArg (List.map fun d => match d with | D.str x => x | _ => Str.empty) h1
      rw [List.map_map, List.map_map] at this
      simpa [Function.comp_def] using this
    subst e3
    obtain ⟨rfl, hB, oB⟩ := w
    rw [List.length_map, List.drop_length] at hl
    simp only [List.length_nil] at hl
    refine .inl ⟨wk.stops _ (LamX.ExtN.trans (O.ext oB) (LamX.ExtN.of (same_new hB))), A, _, _, rfl, upd_same, by omega, hq _ _ _ h2 (O.trans (O.trans o1 oB) (O.same (same_new hB))) (.int _) (FrD.nl fun _ z => by cases z)⟩⟩
theorem disN_nd : ∀ {ss : List Str}, disN ss = ss.length ↔ ss.Nodup := by
  have gen : ∀ (ss l : List Str), l.Nodup → (ss.foldl disL l).length ≤ l.length + ss.length ∧ ((ss.foldl disL l).length = l.length + ss.length ↔ (l ++ ss).Nodup) := by
    intro ss
    induction ss with
    | nil => intro l hl; simp [hl]
    | cons x ss ih =>
      intro l hl
      show (ss.foldl disL (disL l x)).length ≤ _ ∧ ((ss.foldl disL (disL l x)).length = _ ↔ _)
      by_cases h : x ∈ l
      · rw [show disL l x = l from if_pos h]
        obtain ⟨h1, h2⟩ := ih l hl
        rw [List.length_cons]
        refine ⟨by omega, ⟨fun z => by omega, fun z => ?_⟩⟩
        exact absurd rfl ((List.nodup_append.mp z).2.2 x h x List.mem_cons_self)
      · rw [show disL l x = l ++ [x] from if_neg h]
        obtain ⟨h1, h2⟩ := ih (l ++ [x]) (nodup_snoc hl h)
        rw [List.length_append] at h1 h2
        rw [List.append_assoc] at h2
        simp only [List.length_singleton, List.singleton_append] at h1 h2
        rw [List.length_cons]
        exact ⟨by omega, ⟨fun z => h2.mp (by omega), fun z => by have := h2.mpr z; omega⟩⟩
  intro ss
  have := (gen ss [] List.nodup_nil).2
  simpa [disN] using this
end
end Wk

set_option Elab.async false
set_option linter.all false
set_option maxRecDepth 100000
set_option maxHeartbeats 4000000
namespace Wk
open PySem PySem.Spec PyProof.Rows L2
theorem pe_dcV {X : Cx} {kx vx tg iter : Expr} {ifs : List Expr} {sc : Scope} {own : List (Str × Nat)} {pos : Pos} {wi : TI} {g : TG} {tt : TT} {tk tv : TE} (vs : List Nat) (hc : X.calm = true) (hN : X.N.Nodup) (hi : PI X tg iter wi) (ok : BlkOk X.N X.env.scope sc own)
    (hg : ∀ (s : Shared) (H : Hp) (C : Addr) (cl : List (Str × Addr)) (fp : List Addr), PG (X.blk s H sc (compEnvC sc cl C X.env) fp) tg g) (ht : ∀ (s : Shared) (H : Hp) (C : Addr) (cl : List (Str × Addr)) (fp : List Addr), PTs (X.blk s H sc (compEnvC sc cl C X.env) fp) ifs tt)
    (hk : ∀ (s : Shared) (H : Hp) (C : Addr) (cl : List (Str × Addr)) (fp : List Addr), PE (X.blk s H sc (compEnvC sc cl C X.env) fp) kx tk)
    (he : ∀ (s : Shared) (H : Hp) (C : Addr) (cl : List (Str × Addr)) (fp : List Addr), PE (X.blk s H sc (compEnvC sc cl C X.env) fp) vx tv) (hv : own.map (·.2) = vs := by rfl) (hs : ∀ x, foldedSetIterable iter X.env x = pure x := by intro _; rfl) :
    PE X (.DictComp kx vx [⟨tg, iter, ifs, 0⟩] sc pos) (tDc wi g tt tk tv vs) := by
  subst hv
  exact pe_dc hc hN hi ok hg ht hk he hs
def putD (l : List (Key × D)) (k : Key) (d : D) : List (Key × D) :=
  if (l.any fun p => decide (p.1 = k)) = true then l.map (fun p => if p.1 = k then (p.1, d) else p) else l ++ [(k, d)]
def dctD (l : List (Key × D)) : D := .dct (l.map (·.1)) (l.map (·.2))
section
variable {K : PySem.W.Frag} {O : Ord} {E : XK} {n : Nat} {wi : TI} {g : TG} {vs : List Nat} {fi : En → MM (List D)} {u : D → Option (List (Nat × D))} {B : Hp}
inductive RpK (K : PySem.W.Frag) (B : Hp) : List (Key × V) → List (Key × D) → Prop
  | nil : RpK K B [] []
  | cons {k : Key} {v : V} {d : D} {kvs : List (Key × V)} {l : List (Key × D)} : Rp K B v d → RpK K B kvs l → RpK K B ((k, v) :: kvs) ((k, d) :: l)
theorem RpK.mono {B' : Hp} (e : LamX.ExtN B B') : ∀ {kvs : List (Key × V)} {l : List (Key × D)}, RpK K B kvs l → RpK K B' kvs l
  | _, _, .nil => .nil
  | _, _, .cons h r => .cons (h.mono e) (RpK.mono e r)
theorem RpK.len : ∀ {kvs : List (Key × V)} {l : List (Key × D)}, RpK K B kvs l → kvs.length = l.length
  | _, _, .nil => rfl
  | _, _, .cons _ r => by rw [List.length_cons, List.length_cons, RpK.len r]
theorem RpK.any {k : Key} : ∀ {kvs : List (Key × V)} {l : List (Key × D)}, RpK K B kvs l → (kvs.any fun p => decide (p.1 = k)) = l.any fun p => decide (p.1 = k)
  | _, _, .nil => rfl
  | _, _, .cons _ r => by rw [List.any_cons, List.any_cons, RpK.any r]
theorem RpK.rep {k : Key} {v : V} {d : D} (h : Rp K B v d) : ∀ {kvs : List (Key × V)} {l : List (Key × D)}, RpK K B kvs l → RpK K B (kvs.map fun p => if p.1 = k then (p.1, v) else p) (l.map fun p => if p.1 = k then (p.1, d) else p)
  | _, _, .nil => .nil
  | _, _, .cons (k := k') h' r => by
    rw [List.map_cons, List.map_cons]
    by_cases e : k' = k
    · simp only [e, if_true]
      exact .cons h (RpK.rep h r)
    · simp only [e, if_false]
      exact .cons h' (RpK.rep h r)
theorem RpK.snoc {k : Key} {v : V} {d : D} (h : Rp K B v d) : ∀ {kvs : List (Key × V)} {l : List (Key × D)}, RpK K B kvs l → RpK K B (kvs ++ [(k, v)]) (l ++ [(k, d)])
  | _, _, .nil => .cons h .nil
  | _, _, .cons h' r => .cons h' (RpK.snoc h r)
theorem RpK.put {k : Key} {v : V} {d : D} {kvs : List (Key × V)} {l : List (Key × D)} (r : RpK K B kvs l) (h : Rp K B v d) : RpK K B (putK kvs k v) (putD l k d) := by
  unfold putK putD
  rw [r.any]
  split
  · exact r.rep h
  · exact r.snoc h
theorem RpK.to : ∀ {kvs : List (Key × V)} {l : List (Key × D)}, RpK K B kvs l → kvs.map (·.1) = l.map (·.1) ∧ RpA K B (kvs.map (·.2)) (l.map (·.2))
  | _, _, .nil => ⟨rfl, .nil⟩
  | _, _, .cons h r => ⟨by rw [List.map_cons, List.map_cons, (RpK.to r).1], .cons h (RpK.to r).2⟩
theorem RpK.rp {a : Addr} {kvs : List (Key × V)} {l : List (Key × D)} (r : RpK K B kvs l) (h : B a = some (.dK kvs)) : Rp K B (.ref a) (dctD l) := .dct h r.to.1 rfl r.to.2
theorem putD_len (l : List (Key × D)) (k : Key) (d : D) : (putD l k d).length ≤ l.length + 1 := by
  unfold putD
  split
  · rw [List.length_map]; omega
  · rw [List.length_append]; exact Nat.le_refl _
def rdPair (i j : Nat) (ρ : En) : M := bnd (rd ρ i) (onS fun a => bnd (rd ρ j) fun d => ret (.tup [.str a, d]))
def putP (l : List (Key × D)) (p : Str × D) : List (Key × D) := putD l (.inr p.1) p.2
def pairD (p : Str × D) : D := .tup [.str p.1, p.2]
def dcM (vs : List Nat) (fi : En → MM (List D)) (u : D → Option (List (Nat × D))) (i j : Nat) : En → M := fun ρ => bnd (fi ρ) fun xs => need (xs.length ≤ 1000) (bnd (mapV (elV vs u (rdPair i j) ρ) xs) fun ys => fun Q _ => ∃ kd : List (Str × D), ys = kd.map pairD ∧ Q (dctD (kd.foldl putP [])))
instance {i k : Nat} [a : CVI K O E wi fi] [c : CVG K g u] : CV K O E n (tDc wi g tYes (tVar i) (tVar k) vs) (dcM vs fi u i k) := ⟨fun Hs okS σ H Q h => by
  obtain ⟨ρ, r, o, Q0, E0', hm, hq, he⟩ := h
  refine a.go Hs okS σ H _ ⟨ρ, r, o, _, E0', hm, fun xs J H1 ⟨hz, hx⟩ o1 ok => ?_, he⟩
  intro A hD
  let Pv : Nat → Hp → Prop := fun j H' => ∃ (es : List D) (B : Hp), mapV (elV vs u (rdPair i k) ρ) (xs.drop j) (fun ys => ∃ kd : List (Str × D), es ++ ys = kd.map pairD ∧ Q0 (dctD (kd.foldl putP []))) E0' ∧ es.length + (xs.drop j).length = xs.length ∧
    (∃ (ts : List (Str × D)) (kvs : List (Key × V)), es = ts.map pairD ∧ GrowO O H1 A (.dK kvs) B H' ∧ RpK K B kvs (ts.foldl putP []) ∧ (ts.foldl putP []).length ≤ ts.length)
  have wk := ok.walk
  refine ⟨fun j m H' => m = xs.length - j ∧ j ≤ xs.length ∧ Pv j H', ⟨xs.length, by simp, Nat.zero_le _, [], H1, hx, by simp, [], [], rfl, ⟨rfl, hD, O.refl H1⟩, .nil, Nat.le_refl _⟩, ?_⟩
  rintro j m H' ⟨rfl, hj, es, B, hS, hl, ts, kvs, rfl, w, rk, htl⟩
  by_cases hlt : j < xs.length
  · refine .inr ⟨wk.goes j H' hlt w.ext, fun H'' => Pv (j + 1) H'', fun H'' p => ⟨xs.length - (j + 1), by omega, rfl, hlt, p⟩, fun x H'' y => ?_⟩
    obtain ⟨sm, d, hd', rv⟩ := wk.yields j H' x H'' hlt w.ext y
    have e : xs.drop j = d :: xs.drop (j + 1) := by
      rw [List.drop_eq_getElem_cons hlt]
      have := List.getElem?_eq_getElem hlt
      rw [hd'] at this
      rw [Option.some.inj this]
    rw [e] at hS hl
    obtain ⟨ps, h1, h2, h3⟩ := hS
    obtain ⟨B', w', sB, s2, hnew⟩ := w.yields sm
    refine c.go x d B' H'' _ _ ps s2 (rv B' (O.ext w'.2.2) hnew) h1 fun qs up => ?_
    refine ⟨?_, g_yes (g_iteT ?_)⟩
    · rw [wipe_setV up h2]
      exact wipe_wipe vs fun _ z => z
    · have rel := ((r.mono (O.ext (O.trans o1 w'.2.2))).wipe vs).setM up
      obtain ⟨v, dd, g1, g2, g3⟩ := rd_at O E rel h3
      refine ⟨v, g1, ?_⟩
      obtain ⟨x, rfl⟩ : ∃ x, dd = .str x := by cases dd <;> first | exact ⟨_, rfl⟩ | exact g2.elim
      cases g3
      obtain ⟨v', d', f1, f2, f3⟩ := rd_at O E rel g2
      refine ⟨v', f1, ?_⟩
      have e2 : (fun ys => ∃ kd : List (Str × D), ts.map pairD ++ .tup [.str x, d'] :: ys = kd.map pairD ∧ Q0 (dctD (kd.foldl putP []))) = fun ys => ∃ kd : List (Str × D), (ts ++ [(x, d')]).map pairD ++ ys = kd.map pairD ∧ Q0 (dctD (kd.foldl putP [])) := by
        funext ys
        rw [List.map_append, List.append_assoc]
        rfl
      have g2' : mapV (elV vs u (rdPair i k) ρ) (xs.drop (j + 1)) (fun ys => ∃ kd : List (Str × D), (ts ++ [(x, d')]).map pairD ++ ys = kd.map pairD ∧ Q0 (dctD (kd.foldl putP []))) E0' := by
        rw [← e2]
        exact f2
      have hl' := hl
      rw [List.length_map, List.length_cons] at hl'
      have hf : (ts ++ [(x, d')]).foldl putP [] = putD (ts.foldl putP []) (.inr x) d' := by rw [List.foldl_append]; rfl
      have rk' := (rk.mono (LamX.ExtN.of sB)).put (k := .inr x) f3
      refine ⟨kvs, .inr x, rfl, by rw [w'.1]; exact upd_same, ?_, (ts ++ [(x, d')]).map pairD, B', g2', ?_, ts ++ [(x, d')], putK kvs (.inr x) v', rfl, ⟨by rw [w'.1, upd_upd], w'.2.1, w'.2.2⟩, by rw [hf]; exact rk', ?_⟩
      · rw [rk.len]
        have : sizeLine = 16777216 := by decide
        omega
      · rw [List.length_map, List.length_append]
        simp only [List.length_singleton]
        omega
      · rw [hf, List.length_append]
        have := putD_len (ts.foldl putP []) (.inr x) d'
        simp only [List.length_singleton]
        omega
  · have ej : j = xs.length := by omega
    subst ej
    rw [List.drop_length] at hS
    obtain ⟨kd, h1, h2⟩ := hS
    rw [List.append_nil] at h1
    have e3 : ts = kd := by
      have := congrArg (List.map fun d => match d with | D.tup [.str x, y] => (x, y) | _ => (Str.empty, D.non)) h1
      rw [List.map_map, List.map_map] at this
      simpa [Function.comp_def, pairD] using this
    subst e3
    obtain ⟨rfl, hB, oB⟩ := w
    have sm := same_new (o := HO.dK kvs) hB
    refine .inl ⟨wk.stops _ (LamX.ExtN.trans (O.ext oB) (LamX.ExtN.of sm)), hq _ _ _ h2 (O.trans (O.trans o1 oB) (O.same sm)) ((rk.mono (LamX.ExtN.of sm)).rp upd_same) (FrD.nl fun _ z => by cases z)⟩⟩
theorem putP_nd : ∀ {kd : List (Str × D)}, (kd.map (·.1)).Nodup → kd.foldl putP [] = kd.map fun p => (.inr p.1, p.2) := by
  have gen : ∀ (kd l : List (Str × D)), ((l ++ kd).map (·.1)).Nodup → kd.foldl putP (l.map fun p => (.inr p.1, p.2)) = (l ++ kd).map fun p => (.inr p.1, p.2) := by
    intro kd
    induction kd with
    | nil => intro l _; simp
    | cons p kd ih =>
      intro l h
      have hn : p.1 ∉ l.map (·.1) := fun z => by
        rw [List.map_append, List.map_cons] at h
        exact (List.nodup_append.mp h).2.2 p.1 z p.1 List.mem_cons_self rfl
      have ha : ((l.map fun p => ((.inr p.1 : Key), p.2)).any fun q => decide (q.1 = (.inr p.1 : Key))) = false := by
        rw [List.any_eq_false]
        intro q hq
        obtain ⟨r, hr, rfl⟩ := List.mem_map.mp hq
        simp only [decide_eq_true_eq]
        intro z
        injection z with z
        exact hn (List.mem_map.mpr ⟨r, hr, z⟩)
      show kd.foldl putP (putP (l.map fun p => ((.inr p.1 : Key), p.2)) p) = _
      have e : putP (l.map fun p => ((.inr p.1 : Key), p.2)) p = (l ++ [p]).map fun p => ((.inr p.1 : Key), p.2) := by
        unfold putP putD
        rw [ha, if_neg Bool.false_ne_true, List.map_append]
        rfl
      rw [e, ih (l ++ [p]) (by rw [List.append_assoc]; exact h), List.append_assoc]
      rfl
  intro kd h
  exact gen kd [] h
end
end Wk

set_option Elab.async false
set_option linter.all false
set_option maxRecDepth 100000
set_option maxHeartbeats 4000000
namespace Wk
open PySem PySem.Spec PyProof.Rows L2
def tIsi (K : PySem.W.Frag) (nm : String) (te : TE) : TE := tCB (rIsi K) (tCons te (tCons (tC (.ty nm)) tNil))
theorem pe_isi {X : Cx} {e : Expr} {K : PySem.W.Frag} (nm : String) {te : TE} (h : PE X e (tCB (rIsi K) (tCons te (tCons (tC (.ty nm)) tNil)))) : PE X e (tIsi K nm te) := h
def tyD : D → Option String
  | .non => some "NoneType"
  | .bl _ => some "bool"
  | .int _ => some "int"
  | .str _ => some "str"
  | .lst _ => some "list"
  | .tup _ => some "tuple"
  | _ => none
theorem tyD_rp {K : PySem.W.Frag} {H : Hp} {v : V} {d : D} {t : String} (r : Rp K H v d) (h : tyD d = some t) : TyX K H v (.type t) := by
  cases r with
  | non => cases h; exact .base .non
  | bl b => cases h; exact .base (.bl _)
  | int b => cases h; exact .base (.int _)
  | str b => cases h; exact .base (.str _)
  | lst h1 h2 => cases h; exact .base (.lst h1)
  | tup h1 h2 => cases h; exact tyT h1
  | drw _ => cases h
  | obj _ _ _ _ => cases h
  | scr _ _ => cases h
  | lam _ => cases h
  | dct _ _ _ _ => cases h
  | adr _ => cases h
inductive Kt : String → String → Bool → Prop
  | tup : Kt "tuple" "tuple" true
  | lstT : Kt "list" "tuple" false
  | strT : Kt "str" "tuple" false
  | intT : Kt "int" "tuple" false
  | blT : Kt "bool" "tuple" false
  | nonT : Kt "NoneType" "tuple" false
  | str : Kt "str" "str" true
  | tupS : Kt "tuple" "str" false
  | lstS : Kt "list" "str" false
  | intS : Kt "int" "str" false
  | blS : Kt "bool" "str" false
  | nonS : Kt "NoneType" "str" false
  | lst : Kt "list" "list" true
  | tupL : Kt "tuple" "list" false
theorem Kt.kit {K : PySem.W.Frag} {a b : String} {k : Bool} (h : Kt a b k) : PySem.W.kitOne K (.type a) (.type b) = some k := by
  cases h with
  | tup => exact kt_tuple_tuple
  | lstT => exact kt_list_tuple
  | strT => exact kt_str_tuple
  | intT => exact kt_int_tuple
  | blT => exact kt_bool_tuple
  | nonT => exact kt_NoneType_tuple
  | str => exact kt_str_str
  | tupS => exact kt_tuple_str
  | lstS => exact kt_list_str
  | intS => exact kt_int_str
  | blS => exact kt_bool_str
  | nonS => exact kt_NoneType_str
  | lst => exact kt_list_list
  | tupL => exact kt_tuple_list
def isiM (nm : String) (d : D) : M := fun Q _ => ∃ t k, tyD d = some t ∧ Kt t nm k ∧ Q (.bl k)
section
variable {K : PySem.W.Frag} {O : Ord} {E : XK} {n nr : Nat} {te tx : TE} {fe fx : En → M}
instance {nm : String} [a : CV K O E 0 te fe] : CV K O E n (tIsi K nm te) (fun ρ => bnd (fe ρ) (isiM nm)) := ⟨fun Hs okS σ H Q ⟨ρ, r, o, m⟩ =>
  a.go Hs okS σ H _ ⟨ρ, r, o, (m.bnd 0).imp fun v H1 o1 ⟨d, _, rv, _, m1⟩ => by
    obtain ⟨Q0, E0, ⟨t, k, h1, h2, h3⟩, hq, he⟩ := m1
    exact g_isi (ClsV.ty _) (tyD_rp rv h1) h2.kit (hq _ _ H1 h3 (O.refl H1) (.bl _) (FrD.nl fun _ z => by cases z))⟩⟩
end
section
variable {Q : D → Prop} {E : Er → Prop} {ds : List D} {x : Str} {i : Int} {b : Bool}
instance : Stp (isiM "tuple" (.tup ds) Q E) (Q (.bl true)) := ⟨fun q => ⟨_, _, rfl, .tup, q⟩⟩
instance : Stp (isiM "tuple" (.str x) Q E) (Q (.bl false)) := ⟨fun q => ⟨_, _, rfl, .strT, q⟩⟩
instance : Stp (isiM "str" (.str x) Q E) (Q (.bl true)) := ⟨fun q => ⟨_, _, rfl, .str, q⟩⟩
instance : Stp (isiM "str" (.tup ds) Q E) (Q (.bl false)) := ⟨fun q => ⟨_, _, rfl, .tupS, q⟩⟩
end
section
variable {K : PySem.W.Frag} {O : Ord} {E : XK} {n nr : Nat} {te tx : TE} {fe fx : En → M}
def dGet2M (kvs : List (Key × V)) (d z : D) : M := fun Q _ => ∃ k, dKy d = some k ∧ (∀ v, valV kvs k = some v → ∃ y, vD v = some y ∧ Q y) ∧ (valV kvs k = none → Q z)
instance {trs : List (TE × TE)} {kvs : List (Key × V)} [c : KsC trs kvs] [a : CV K O E 0 te fe] [b : CV K O E 0 tx fx] : CV K O E 0 (tDGet2 (tDisp trs) te tx) (fun ρ => need (kvs.length ≤ 15) (bnd (fe ρ) fun d => bnd (fx ρ) fun z => dGet2M (mergeK [] kvs) d z)) := ⟨fun Hs okS σ H Q ⟨ρ, r, o, m⟩ => by
  obtain ⟨h15, m⟩ := m.need
  intro p hp
  rw [c.eq]
  refine pairs_cst kvs _ ⟨upd_same, kvs, rfl, h15, ?_⟩
  have hu : upd (upd H p (.dK [])) p (.dK (mergeK [] kvs)) = upd H p (.dK (mergeK [] kvs)) := by
    funext b
    unfold upd
    by_cases hb : b = p
    · simp [hb]
    · simp [hb]
  rw [hu]
  have o2 : O.r H (upd H p (.dK (mergeK [] kvs))) := O.same (same_new hp)
  refine ⟨p, rfl, .inl ⟨_, .inl upd_same⟩, ?_⟩
  refine a.go Hs okS σ _ _ ⟨ρ, r.mono (O.ext o2), O.trans o o2, ?_⟩
  obtain ⟨Q0, E0, hm, hq, he⟩ := m
  refine ⟨_, E0, hm, fun d v H1 hd o3 rv _ => ?_, fun e z => (he e z).mono o2⟩
  refine b.go Hs okS σ _ _ ⟨ρ, (r.mono (O.ext o2)).mono (O.ext o3), O.trans (O.trans o o2) o3, _, E0, hd, fun z vz H2 hz o4 rz _ => ?_, fun e z => ((he e z).mono o2).mono o3⟩
  obtain ⟨k, h1, h2, h3⟩ := hz
  have e1 := dKy_rp (rv.mono (O.ext o4)) h1
  subst e1
  have hp1 : H2 p = some (.dK (mergeK [] kvs)) := O.ext o4 _ _ (O.ext o3 _ _ upd_same fun _ z => nomatch z) fun _ z => nomatch z
  refine ⟨valV (mergeK [] kvs) k, DGet.k (k := k) hp1, ?_⟩
  have oo := O.trans o2 (O.trans o3 o4)
  cases hv : valV (mergeK [] kvs) k with
  | none => exact hq z vz H2 (h3 hv) oo rz True.intro
  | some w =>
    obtain ⟨y, g1, g2⟩ := h2 w hv
    exact hq y w H2 g2 oo (vD_rp g1) True.intro⟩
end
theorem dGet2_ok {kvs : List (Key × V)} {x : Str} {z y : D} {v : V} {Q : D → Prop} {E : Er → Prop} (h2 : valV kvs (.inr x) = some v) (h3 : vD v = some y) (q : Q y) : dGet2M kvs (.str x) z Q E := ⟨.inr x, rfl, fun w hw => by rw [h2] at hw; cases hw; exact ⟨y, h3, q⟩, fun hn => by rw [h2] at hn; cases hn⟩
theorem dGet2_no {kvs : List (Key × V)} {x : Str} {z : D} {Q : D → Prop} {E : Er → Prop} (h2 : valV kvs (.inr x) = none) (q : Q z) : dGet2M kvs (.str x) z Q E := ⟨.inr x, rfl, fun w hw => (by rw [h2] at hw; cases hw), fun _ => q⟩
end Wk

set_option Elab.async false
set_option linter.all false
set_option maxRecDepth 100000
set_option maxHeartbeats 4000000
namespace Wk
open PySem PySem.Spec PyProof.Rows L2
def okStr (x : Str) : Prop := ∀ c ∈ tl x, c < 1114112
theorem okStr_lay {x : Str} (h : okStr x) : PyData.canLay0 (.str x) = true := by
  show PyData.strOk x = true
  unfold PyData.strOk
  rw [Array.all_eq_true]
  intro i hi
  have : x.cps[i] ∈ tl x := by
    show x.cps[i] ∈ x.cps.toList
    simp
  simpa using h _ this
def Pl : Nat → D → Prop
  | _, .non => True
  | _, .int _ => True
  | _, .str x => okStr x
  | n + 1, .lst ds => ∀ d ∈ ds, Pl n d
  | n + 1, .tup ds => ∀ d ∈ ds, Pl n d
  | _, _ => False
theorem Pl.row {n : Nat} (go : ∀ d, Pl n d → ∃ p, toPy d = some p ∧ ShD n p) : ∀ ds : List D, (∀ d ∈ ds, Pl n d) → ∃ ps, toPyA ds = some ps ∧ ShA n ps
  | [], _ => ⟨[], rfl, .nil⟩
  | d :: ds, h => by
    obtain ⟨p, h1, h2⟩ := go d (h d List.mem_cons_self)
    obtain ⟨ps, h3, h4⟩ := Pl.row go ds fun e he => h e (List.mem_cons_of_mem _ he)
    exact ⟨p :: ps, by rw [toPyA, h1, h3]; rfl, .cons h2 h4⟩
theorem Pl.py : ∀ {n : Nat} {d : D}, Pl n d → ∃ p, toPy d = some p ∧ ShD n p
  | _, .non, _ => ⟨_, rfl, .non⟩
  | _, .int i, _ => ⟨_, rfl, .int i⟩
  | _, .str x, h => ⟨_, rfl, .str (okStr_lay (by cases ‹Nat› <;> exact h))⟩
  | n + 1, .lst ds, h => by
    obtain ⟨ps, h1, h2⟩ := Pl.row (fun d hd => Pl.py hd) ds h
    exact ⟨_, by rw [toPy, h1]; rfl, shl h2⟩
  | n + 1, .tup ds, h => by
    obtain ⟨ps, h1, h2⟩ := Pl.row (fun d hd => Pl.py hd) ds h
    exact ⟨_, by rw [toPy, h1]; rfl, sht h2⟩
  | 0, .lst _, h => h.elim
  | 0, .tup _, h => h.elim
  | 0, .bl _, h => h.elim
  | n + 1, .bl _, h => h.elim
  | 0, .drw, h => h.elim
  | n + 1, .drw, h => h.elim
  | 0, .scr, h => h.elim
  | n + 1, .scr, h => h.elim
  | 0, .obj _ _ _, h => h.elim
  | n + 1, .obj _ _ _, h => h.elim
  | 0, .lam _ _ _, h => h.elim
  | n + 1, .lam _ _ _, h => h.elim
  | 0, .dct _ _, h => h.elim
  | n + 1, .dct _ _, h => h.elim
  | 0, .adr _, h => h.elim
  | n + 1, .adr _, h => h.elim
theorem toPyA_cons {d : D} {ds : List D} {ps : List PyData} (h : toPyA (d :: ds) = some ps) : ∃ p qs, ps = p :: qs ∧ toPy d = some p ∧ toPyA ds = some qs := by
  rw [toPyA] at h
  cases h1 : toPy d with
  | none => rw [h1] at h; cases h
  | some p =>
    rw [h1] at h
    cases h2 : toPyA ds with
    | none => rw [h2] at h; cases h
    | some qs => rw [h2] at h; cases h; exact ⟨p, qs, rfl, rfl, rfl⟩
theorem toPy_lst {ds : List D} {p : PyData} (h : toPy (.lst ds) = some p) : ∃ ps, p = .list ps ∧ toPyA ds = some ps := by
  rw [toPy] at h
  cases h1 : toPyA ds with
  | none => rw [h1] at h; cases h
  | some ps => rw [h1] at h; cases h; exact ⟨ps, rfl, rfl⟩
theorem toPy_tup {ds : List D} {p : PyData} (h : toPy (.tup ds) = some p) : ∃ ps, p = .tuple ps ∧ toPyA ds = some ps := by
  rw [toPy] at h
  cases h1 : toPyA ds with
  | none => rw [h1] at h; cases h
  | some ps => rw [h1] at h; cases h; exact ⟨ps, rfl, rfl⟩
theorem Pl.eqvA {n m : Nat} (go : ∀ d e p q, Pl n d → Pl m e → toPy d = some p → toPy e = some q → (PyData.eqv p q = true ↔ d = e)) : ∀ (ds es : List D) (ps qs : List PyData), (∀ d ∈ ds, Pl n d) → (∀ e ∈ es, Pl m e) → toPyA ds = some ps → toPyA es = some qs → (PyData.eqvAll ps qs = true ↔ ds = es)
  | [], [], ps, qs, _, _, h1, h2 => by cases h1; cases h2; simp [PyData.eqvAll]
  | [], e :: es, ps, qs, _, _, h1, h2 => by
    cases h1
    obtain ⟨p, qs, rfl, _, _⟩ := toPyA_cons h2
    simp [PyData.eqvAll]
  | d :: ds, [], ps, qs, _, _, h1, h2 => by
    cases h2
    obtain ⟨p, qs, rfl, _, _⟩ := toPyA_cons h1
    simp [PyData.eqvAll]
  | d :: ds, e :: es, ps, qs, g1, g2, h1, h2 => by
    obtain ⟨p, ps, rfl, h3, h4⟩ := toPyA_cons h1
    obtain ⟨q, qs, rfl, h5, h6⟩ := toPyA_cons h2
    rw [PyData.eqvAll, Bool.and_eq_true, go d e p q (g1 d List.mem_cons_self) (g2 e List.mem_cons_self) h3 h5, Pl.eqvA go ds es ps qs (fun z hz => g1 z (List.mem_cons_of_mem _ hz)) (fun z hz => g2 z (List.mem_cons_of_mem _ hz)) h4 h6, List.cons.injEq]
inductive PlC : D → Prop
  | non : PlC .non
  | int (i : Int) : PlC (.int i)
  | str (x : Str) : PlC (.str x)
  | lst (ds : List D) : PlC (.lst ds)
  | tup (ds : List D) : PlC (.tup ds)
theorem Pl.kind {n : Nat} {d : D} (h : Pl n d) : PlC d := by
  cases d with
  | non => exact .non
  | int i => exact .int i
  | str x => exact .str x
  | lst ds => exact .lst ds
  | tup ds => exact .tup ds
  | bl b => cases n <;> exact h.elim
  | drw => cases n <;> exact h.elim
  | scr => cases n <;> exact h.elim
  | obj _ _ _ => cases n <;> exact h.elim
  | lam _ _ _ => cases n <;> exact h.elim
  | dct _ _ => cases n <;> exact h.elim
  | adr _ => cases n <;> exact h.elim
theorem Pl.eqv : ∀ {n m : Nat} (d e : D) (p q : PyData), Pl n d → Pl m e → toPy d = some p → toPy e = some q → (PyData.eqv p q = true ↔ d = e) := by
  intro n
  induction n with
  | zero =>
    intro m d e p q hd he h1 h2
    cases hd.kind <;> cases he.kind <;> first
      | exact hd.elim
      | (cases h1; cases h2; simp [PyData.eqv]; done)
      | (cases h1; obtain ⟨_, rfl, _⟩ := toPy_lst h2; simp [PyData.eqv]; done)
      | (cases h1; obtain ⟨_, rfl, _⟩ := toPy_tup h2; simp [PyData.eqv]; done)
  | succ n ih =>
    intro m d e p q hd he h1 h2
    cases hd.kind <;> cases he.kind <;> first
      | (cases h1; cases h2; simp [PyData.eqv]; done)
      | (cases h1; obtain ⟨_, rfl, _⟩ := toPy_lst h2; simp [PyData.eqv]; done)
      | (cases h1; obtain ⟨_, rfl, _⟩ := toPy_tup h2; simp [PyData.eqv]; done)
      | (cases h2; obtain ⟨_, rfl, _⟩ := toPy_lst h1; simp [PyData.eqv]; done)
      | (cases h2; obtain ⟨_, rfl, _⟩ := toPy_tup h1; simp [PyData.eqv]; done)
      | (obtain ⟨_, rfl, _⟩ := toPy_lst h1; obtain ⟨_, rfl, _⟩ := toPy_tup h2; simp [PyData.eqv]; done)
      | (obtain ⟨_, rfl, _⟩ := toPy_tup h1; obtain ⟨_, rfl, _⟩ := toPy_lst h2; simp [PyData.eqv]; done)
      | (obtain ⟨ps, rfl, g1⟩ := toPy_lst h1
         obtain ⟨qs, rfl, g2⟩ := toPy_lst h2
         cases m with
         | zero => exact he.elim
         | succ m =>
           rw [PyData.eqv, D.lst.injEq]
           exact Pl.eqvA (fun d e p q a b c f => ih d e p q a b c f) _ _ _ _ hd he g1 g2)
      | (obtain ⟨ps, rfl, g1⟩ := toPy_tup h1
         obtain ⟨qs, rfl, g2⟩ := toPy_tup h2
         cases m with
         | zero => exact he.elim
         | succ m =>
           rw [PyData.eqv, D.tup.injEq]
           exact Pl.eqvA (fun d e p q a b c f => ih d e p q a b c f) _ _ _ _ hd he g1 g2)
theorem eqM_pl {neg : Bool} {d e : D} {n m : Nat} {Q : D → Prop} {E : Er → Prop} (hd : Pl n d) (he : Pl m e) (hn : n ≤ 64) (hm : m ≤ 64) (q : ∀ b : Bool, (b = true ↔ d = e) → Q (.bl (neg != b))) : eqM neg d e Q E := by
  obtain ⟨p, h1, h2⟩ := hd.py
  obtain ⟨p', h3, h4⟩ := he.py
  have deep : eqDeep neg d e Q E := ⟨p, p', h1, h3, shaped_of h2 hn, shaped_of h4 hm, q _ (Pl.eqv d e p p' hd he h1 h3)⟩
  cases hd.kind <;> cases he.kind <;> first
    | exact deep
    | (refine q _ ?_; rw [decide_eq_true_eq, D.int.injEq]; done)
    | (refine q _ ?_; rw [decide_eq_true_eq, D.str.injEq]; done)
theorem Pl.up : ∀ {n m : Nat} {d : D}, Pl n d → n ≤ m → Pl m d := by
  intro n
  induction n with
  | zero =>
    intro m d h hm
    cases h.kind <;> cases m <;> first | exact True.intro | exact h | exact h.elim
  | succ n ih =>
    intro m d h hm
    obtain ⟨k, rfl⟩ : ∃ k, m = k + 1 := ⟨m - 1, by omega⟩
    cases h.kind <;> first
      | exact True.intro
      | exact (show okStr _ from h)
      | exact (fun d hd => ih ((show ∀ d ∈ _, Pl n d from h) d hd) (by omega) : ∀ d ∈ _, Pl k d)
section
variable {vs : List Nat} {fi : En → MM (List D)} {u : D → Option (List (Nat × D))} {i j : Nat} {ρ : En} {Q : D → Prop} {E : Er → Prop}
instance : Stp (lenScM vs fi u i ρ Q E) (fi ρ (fun xs => xs.length ≤ 1000 ∧ mapV (elV vs u (rdStr i) ρ) xs (fun ys => ∃ ss : List Str, ys = ss.map D.str ∧ Q (.int (disN ss : Nat))) E) E) := ⟨id⟩
instance : Stp (dcM vs fi u i j ρ Q E) (fi ρ (fun xs => xs.length ≤ 1000 ∧ mapV (elV vs u (rdPair i j) ρ) xs (fun ys => ∃ kd : List (Str × D), ys = kd.map pairD ∧ Q (dctD (kd.foldl putP []))) E) E) := ⟨id⟩
instance : Stp (rdStr i ρ Q E) (bnd (rd ρ i) (onS fun a => ret (.str a)) Q E) := ⟨id⟩
instance : Stp (rdPair i j ρ Q E) (bnd (rd ρ i) (onS fun a => bnd (rd ρ j) fun d => ret (.tup [.str a, d])) Q E) := ⟨id⟩
end
def Bd.inner : Bd → List Bd
  | .nm _ => []
  | .nt b => [b]
  | .an b c => [b, c]
  | .orr b c => [b, c]
def Bd.all : Bd → List Bd
  | .nm x => [.nm x]
  | .nt b => .nt b :: b.all
  | .an b c => .an b c :: (b.all ++ c.all)
  | .orr b c => .orr b c :: (b.all ++ c.all)
theorem Bd.all_len : ∀ b : Bd, b.all.length = b.parts
  | .nm _ => rfl
  | .nt b => by simp [Bd.all, Bd.parts, Bd.all_len b]
  | .an b c => by simp [Bd.all, Bd.parts, Bd.all_len b, Bd.all_len c]
  | .orr b c => by simp [Bd.all, Bd.parts, Bd.all_len b, Bd.all_len c]
theorem Bd.all_eq (b : Bd) : b.all = b :: b.inner.flatMap Bd.all := by
  cases b <;> simp [Bd.all, Bd.inner]
theorem Bd.inner_deep {b c : Bd} (h : c ∈ b.inner) : c.deep + 1 ≤ b.deep := by
  cases b <;> simp [Bd.inner] at h <;> simp only [Bd.deep] <;> first | (rcases h with rfl | rfl <;> omega) | (subst h; omega)
theorem Bd.parts_deep : ∀ b : Bd, b.parts + 1 ≤ 2 ^ b.deep
  | .nm _ => by simp [Bd.parts, Bd.deep]
  | .nt b => by
    have := Bd.parts_deep b
    have hp : 1 ≤ 2 ^ b.deep := Nat.pow_pos (by decide)
    simp only [Bd.parts, Bd.deep, Nat.pow_succ]
    have hq : 1 ≤ b.parts := by cases b <;> simp [Bd.parts]
    omega
  | .an b c => by
    have h1 := Bd.parts_deep b
    have h2 := Bd.parts_deep c
    have h3 : 2 ^ b.deep ≤ 2 ^ max b.deep c.deep := Nat.pow_le_pow_right (by decide) (by omega)
    have h4 : 2 ^ c.deep ≤ 2 ^ max b.deep c.deep := Nat.pow_le_pow_right (by decide) (by omega)
    simp only [Bd.parts, Bd.deep, Nat.pow_succ]
    omega
  | .orr b c => by
    have h1 := Bd.parts_deep b
    have h2 := Bd.parts_deep c
    have h3 : 2 ^ b.deep ≤ 2 ^ max b.deep c.deep := Nat.pow_le_pow_right (by decide) (by omega)
    have h4 : 2 ^ c.deep ≤ 2 ^ max b.deep c.deep := Nat.pow_le_pow_right (by decide) (by omega)
    simp only [Bd.parts, Bd.deep, Nat.pow_succ]
    omega
theorem Bd.deep_pos (b : Bd) : 1 ≤ b.deep := by cases b <;> simp [Bd.deep]
theorem bD_inj : ∀ {b c : Bd}, bD b = bD c → b = c
  | .nm x, .nm y, h => by simp [bD] at h; rw [h]
  | .nt b, .nt c, h => by simp [bD] at h; rw [bD_inj h]
  | .an b c, .an b' c', h => by simp [bD] at h; rw [bD_inj h.1, bD_inj h.2]
  | .orr b c, .orr b' c', h => by simp [bD] at h; rw [bD_inj h.1, bD_inj h.2]
  | .nm x, .nt y, h => by simp [bD] at h; exact absurd h.1 (by decide)
  | .nt x, .nm y, h => by simp [bD] at h; exact absurd h.1 (by decide)
  | .nm x, .an y z, h => by simp [bD] at h
  | .nm x, .orr y z, h => by simp [bD] at h
  | .nt x, .an y z, h => by simp [bD] at h
  | .nt x, .orr y z, h => by simp [bD] at h
  | .an x y, .nm z, h => by simp [bD] at h
  | .an x y, .nt z, h => by simp [bD] at h
  | .orr x y, .nm z, h => by simp [bD] at h
  | .orr x y, .nt z, h => by simp [bD] at h
  | .an x y, .orr z u, h => by simp [bD] at h; exact absurd h.1 (by decide)
  | .orr x y, .an z u, h => by simp [bD] at h; exact absurd h.1 (by decide)
instance {b : Bd} : FlatC (bD b) := ⟨flat_bD b⟩
instance {b : Bd} : ToL (bD b) (.lt (bD b)) := ⟨by cases b <;> rfl⟩
instance {s : Say} : ToL (sayD s) (.lt (sayD s)) := ⟨rfl⟩
def Bd.okN (b : Bd) : Prop := ∀ x ∈ b.names, okStr x
theorem Bd.pl : ∀ {b : Bd}, b.okN → Pl b.deep (bD b)
  | .nm x, h => fun d hd => by
    simp at hd
    rcases hd with rfl | rfl
    · show okStr _
      unfold okStr
      decide +kernel
    · exact h x (by simp [Bd.names])
  | .nt b, h => fun d hd => by
    simp at hd
    rcases hd with rfl | rfl
    · exact Pl.up (n := 0) (show okStr _ by unfold okStr; decide +kernel) (Nat.zero_le _)
    · exact Bd.pl (b := b) h
  | .an b c, h => fun d hd => by
    simp at hd
    rcases hd with rfl | rfl | rfl
    · exact Pl.up (n := 0) (show okStr _ by unfold okStr; decide +kernel) (Nat.zero_le _)
    · exact (Bd.pl (b := b) fun x hx => h x (List.mem_append_left _ hx)).up (Nat.le_max_left _ _)
    · exact (Bd.pl (b := c) fun x hx => h x (List.mem_append_right _ hx)).up (Nat.le_max_right _ _)
  | .orr b c, h => fun d hd => by
    simp at hd
    rcases hd with rfl | rfl | rfl
    · exact Pl.up (n := 0) (show okStr _ by unfold okStr; decide +kernel) (Nat.zero_le _)
    · exact (Bd.pl (b := b) fun x hx => h x (List.mem_append_left _ hx)).up (Nat.le_max_left _ _)
    · exact (Bd.pl (b := c) fun x hx => h x (List.mem_append_right _ hx)).up (Nat.le_max_right _ _)
theorem Bd.all_sub : ∀ {b c : Bd}, c ∈ b.all → (∀ x ∈ c.names, x ∈ b.names) ∧ c.deep ≤ b.deep
  | .nm x, c, h => by simp [Bd.all] at h; subst h; exact ⟨fun _ h => h, Nat.le_refl _⟩
  | .nt b, c, h => by
    rcases List.mem_cons.mp h with rfl | h
    · exact ⟨fun _ h => h, Nat.le_refl _⟩
    · obtain ⟨h1, h2⟩ := Bd.all_sub h
      exact ⟨h1, by simp only [Bd.deep]; omega⟩
  | .an b b', c, h => by
    rcases List.mem_cons.mp h with rfl | h
    · exact ⟨fun _ h => h, Nat.le_refl _⟩
    · rcases List.mem_append.mp h with h | h
      · obtain ⟨h1, h2⟩ := Bd.all_sub h
        exact ⟨fun x hx => List.mem_append_left _ (h1 x hx), by simp only [Bd.deep]; omega⟩
      · obtain ⟨h1, h2⟩ := Bd.all_sub h
        exact ⟨fun x hx => List.mem_append_right _ (h1 x hx), by simp only [Bd.deep]; omega⟩
  | .orr b b', c, h => by
    rcases List.mem_cons.mp h with rfl | h
    · exact ⟨fun _ h => h, Nat.le_refl _⟩
    · rcases List.mem_append.mp h with h | h
      · obtain ⟨h1, h2⟩ := Bd.all_sub h
        exact ⟨fun x hx => List.mem_append_left _ (h1 x hx), by simp only [Bd.deep]; omega⟩
      · obtain ⟨h1, h2⟩ := Bd.all_sub h
        exact ⟨fun x hx => List.mem_append_right _ (h1 x hx), by simp only [Bd.deep]; omega⟩
def Bd.isNm (x : Str) : Bd → Bool
  | .nm y => decide (y = x)
  | _ => false
theorem Bd.isNm_iff {x : Str} {b : Bd} : b.isNm x = true ↔ bD b = .tup [.str "name", .str x] := by
  cases b with
  | nm y => simp [Bd.isNm, bD]
  | nt b => simp [Bd.isNm, bD]; exact fun h => absurd h (by decide)
  | an b c => simp [Bd.isNm, bD]
  | orr b c => simp [Bd.isNm, bD]
theorem Bd.often_all (x : Str) : ∀ b : Bd, (b.all.filter (Bd.isNm x)).length = b.often x
  | .nm y => by
    by_cases h : y = x
    · simp [Bd.all, Bd.isNm, Bd.often, h]
    · simp [Bd.all, Bd.isNm, Bd.often, h]
  | .nt b => by
    rw [Bd.all, List.filter_cons_of_neg (by simp [Bd.isNm]), Bd.often_all x b]
    rfl
  | .an b c => by
    rw [Bd.all, List.filter_cons_of_neg (by simp [Bd.isNm]), List.filter_append, List.length_append, Bd.often_all x b, Bd.often_all x c]
    rfl
  | .orr b c => by
    rw [Bd.all, List.filter_cons_of_neg (by simp [Bd.isNm]), List.filter_append, List.length_append, Bd.often_all x b, Bd.often_all x c]
    rfl
theorem NmOk.ok {x : Str} (h : NmOk x) : okStr x := fun c hc => by have := h.2.2.1 c hc; omega
theorem SayOk.okN {m t : Nat} {s : Say} (h : SayOk m t s) : s.body.okN := fun x hx => by
  obtain ⟨p, hp, e⟩ := List.mem_map.mp (h.nms x hx)
  rw [← e]
  exact (h.nm p hp).ok
def Th : Nat → D → Prop
  | _, .str _ => True
  | n + 1, .tup ds => ds.length ≤ 1000 ∧ ∀ d ∈ ds, Th n d
  | _, _ => False
def BdIn (names : List Str) (n : Nat) (d : D) : Prop := ∃ b : Bd, d = bD b ∧ b.deep ≤ n ∧ ∀ x ∈ b.names, x ∈ names
theorem BdIn.zero {names : List Str} {d : D} : ¬ BdIn names 0 d := fun ⟨b, _, h, _⟩ => by have := b.deep_pos; omega
theorem BdIn.tup {names : List Str} {n : Nat} {d : D} (h : BdIn names n d) : ∃ w ds, d = .tup (.str w :: ds) ∧ 1 ≤ ds.length := by
  obtain ⟨b, rfl, _⟩ := h
  cases b <;> exact ⟨_, _, rfl, by simp⟩
theorem bdIn_nm {names : List Str} {n : Nat} {ds : List D} : BdIn names (n + 1) (.tup (.str "name" :: ds)) ↔ ∃ x, ds = [.str x] ∧ x ∈ names := by
  constructor
  · rintro ⟨b, e, _, h⟩
    cases b with
    | nm x =>
      simp [bD] at e
      exact ⟨x, e, h x (by simp [Bd.names])⟩
    | nt b => simp [bD] at e; exact absurd e.1 (by decide)
    | an b c => simp [bD] at e; exact absurd e.1 (by decide)
    | orr b c => simp [bD] at e; exact absurd e.1 (by decide)
  · rintro ⟨x, rfl, hx⟩
    exact ⟨.nm x, rfl, by simp [Bd.deep], fun y hy => by simp [Bd.names] at hy; rw [hy]; exact hx⟩
def arity (w : Str) : Nat := if w = "not" then 1 else if w = "and" then 2 else if w = "or" then 2 else 0
theorem bdIn_ot {names : List Str} {n : Nat} {w : Str} {ds : List D} (hw : w ≠ "name") (hd : 1 ≤ ds.length) : BdIn names (n + 1) (.tup (.str w :: ds)) ↔ ds.length = arity w ∧ ∀ d ∈ ds, BdIn names n d := by
  constructor
  · rintro ⟨b, e, h1, h⟩
    cases b with
    | nm x => simp [bD] at e; exact absurd e.1 hw
    | nt b =>
      simp [bD] at e
      obtain ⟨rfl, rfl⟩ := e
      simp only [Bd.deep] at h1
      refine ⟨show 1 = arity "not" by decide, fun d hd => ?_⟩
      rw [List.mem_singleton.mp hd]
      exact ⟨b, rfl, by omega, h⟩
    | an b c =>
      simp [bD] at e
      obtain ⟨rfl, rfl⟩ := e
      simp only [Bd.deep] at h1
      refine ⟨show 2 = arity "and" by decide, fun d hd => ?_⟩
      simp at hd
      rcases hd with rfl | rfl
      · exact ⟨b, rfl, by omega, fun x hx => h x (List.mem_append_left _ hx)⟩
      · exact ⟨c, rfl, by omega, fun x hx => h x (List.mem_append_right _ hx)⟩
    | orr b c =>
      simp [bD] at e
      obtain ⟨rfl, rfl⟩ := e
      simp only [Bd.deep] at h1
      refine ⟨show 2 = arity "or" by decide, fun d hd => ?_⟩
      simp at hd
      rcases hd with rfl | rfl
      · exact ⟨b, rfl, by omega, fun x hx => h x (List.mem_append_left _ hx)⟩
      · exact ⟨c, rfl, by omega, fun x hx => h x (List.mem_append_right _ hx)⟩
  · rintro ⟨hl, h⟩
    unfold arity at hl
    by_cases h1 : w = "not"
    · subst h1
      rw [if_pos rfl] at hl
      obtain ⟨d, rfl⟩ := List.length_eq_one_iff.mp hl
      obtain ⟨b, rfl, g1, g2⟩ := h d (by simp)
      exact ⟨.nt b, rfl, by simp only [Bd.deep]; omega, g2⟩
    · rw [if_neg h1] at hl
      have two : ds.length = 2 → ∃ b c, ds = [bD b, bD c] ∧ (max b.deep c.deep + 1 ≤ n + 1) ∧ ∀ x ∈ b.names ++ c.names, x ∈ names := fun h2 => by
        match ds, h2 with
        | [d, e], _ =>
          obtain ⟨b, rfl, g1, g2⟩ := h d (by simp)
          obtain ⟨c, rfl, g3, g4⟩ := h e (by simp)
          exact ⟨b, c, rfl, by omega, fun x hx => (List.mem_append.mp hx).elim (g2 x) (g4 x)⟩
      by_cases h2 : w = "and"
      · subst h2
        rw [if_pos rfl] at hl
        obtain ⟨b, c, rfl, g1, g2⟩ := two hl
        exact ⟨.an b c, rfl, g1, g2⟩
      · rw [if_neg h2] at hl
        by_cases h3 : w = "or"
        · subst h3
          rw [if_pos rfl] at hl
          obtain ⟨b, c, rfl, g1, g2⟩ := two hl
          exact ⟨.orr b c, rfl, g1, g2⟩
        · rw [if_neg h3] at hl
          omega
theorem dGet2_ar {w : Str} {Q : D → Prop} {E : Er → Prop} (q : Q (.int (arity w : Nat))) : dGet2M (mergeK [] [((Sum.inr (Str.ofString "not") : Key), V.int 1), (Sum.inr (Str.ofString "and"), V.int 2), (Sum.inr (Str.ofString "or"), V.int 2)]) (.str w) (.int 0) Q E := by
  have e : mergeK [] [((Sum.inr (Str.ofString "not") : Key), V.int 1), (Sum.inr (Str.ofString "and"), V.int 2), (Sum.inr (Str.ofString "or"), V.int 2)] = [((Sum.inr (Str.ofString "not") : Key), V.int 1), (Sum.inr (Str.ofString "and"), V.int 2), (Sum.inr (Str.ofString "or"), V.int 2)] := by
    rfl
  rw [e]
  unfold arity at q
  by_cases h1 : w = "not"
  · subst h1
    exact dGet2_ok (valV_pos rfl) rfl q
  · rw [if_neg h1] at q
    have n1 : ¬ (Sum.inr (Str.ofString "not") : Key) = Sum.inr w := fun z => h1 (Sum.inr.inj z).symm
    by_cases h2 : w = "and"
    · subst h2
      exact dGet2_ok (by rw [valV_neg n1]; exact valV_pos rfl) rfl q
    · rw [if_neg h2] at q
      have n2 : ¬ (Sum.inr (Str.ofString "and") : Key) = Sum.inr w := fun z => h2 (Sum.inr.inj z).symm
      by_cases h3 : w = "or"
      · subst h3
        exact dGet2_ok (by rw [valV_neg n1, valV_neg n2]; exact valV_pos rfl) rfl q
      · rw [if_neg h3] at q
        have n3 : ¬ (Sum.inr (Str.ofString "or") : Key) = Sum.inr w := fun z => h3 (Sum.inr.inj z).symm
        exact dGet2_no (by rw [valV_neg n1, valV_neg n2, valV_neg n3]; rfl) q
theorem mapV_B {f : D → M} {E : Er → Prop} (h : D → Bool) {xs : List D} {Ql : List D → Prop} (hx : ∀ a ∈ xs, ∀ Q' : D → Prop, Q' (.bl (h a)) → f a Q' E) (q : Ql (List.map D.bl (xs.map h))) : mapV f xs Ql E := by
  rw [List.map_map] at q
  exact mapV_det (fun a => .bl (h a)) hx q
noncomputable def yes (p : Prop) : Bool := @decide p (Classical.propDecidable p)
theorem yes_iff {p : Prop} : yes p = true ↔ p := by
  unfold yes
  exact @decide_eq_true_iff p (Classical.propDecidable p)
theorem yes_of {p : Prop} {b : Bool} (h : b = true ↔ p) : b = yes p := by rw [Bool.eq_iff_iff, h, yes_iff]
theorem Th.up : ∀ {n m : Nat} {d : D}, Th n d → n ≤ m → Th m d := by
  intro n
  induction n with
  | zero =>
    intro m d h hm
    cases d <;> first | (cases m <;> exact True.intro) | exact h.elim
  | succ n ih =>
    intro m d h hm
    obtain ⟨k, rfl⟩ : ∃ k, m = k + 1 := ⟨m - 1, by omega⟩
    cases d <;> first
      | exact True.intro
      | exact h.elim
      | exact ⟨h.1, fun d hd => ih (h.2 d hd) (by omega)⟩
def Bd.worth (p : Int) (val : Str → Int) : Bd → Int
  | .nm x => val x
  | .nt b => (1 - b.worth p val) % p
  | .an b c => b.worth p val * c.worth p val % p
  | .orr b c => (b.worth p val + c.worth p val - b.worth p val * c.worth p val) % p
theorem Bd.worth_le {p : Int} {val : Str → Int} (hp : 1 ≤ p ∧ p ≤ 1000) : ∀ {b : Bd}, (∀ x ∈ b.names, (val x).natAbs ≤ 1000) → (b.worth p val).natAbs ≤ 1000
  | .nm x, h => h x (by simp [Bd.names])
  | .nt b, h => by
    have h1 := Int.emod_nonneg (1 - b.worth p val) (show p ≠ 0 by omega)
    have h2 := Int.emod_lt_of_pos (1 - b.worth p val) (show 0 < p by omega)
    simp only [Bd.worth]
    omega
  | .an b c, h => by
    have h1 := Int.emod_nonneg (b.worth p val * c.worth p val) (show p ≠ 0 by omega)
    have h2 := Int.emod_lt_of_pos (b.worth p val * c.worth p val) (show 0 < p by omega)
    simp only [Bd.worth]
    omega
  | .orr b c, h => by
    have h1 := Int.emod_nonneg (b.worth p val + c.worth p val - b.worth p val * c.worth p val) (show p ≠ 0 by omega)
    have h2 := Int.emod_lt_of_pos (b.worth p val + c.worth p val - b.worth p val * c.worth p val) (show 0 < p by omega)
    simp only [Bd.worth]
    omega
def valOf : List Str → List Int → Str → Int
  | n :: ns, v :: vs, x => if n = x then v else valOf ns vs x
  | _, _, _ => 0
theorem valOf_le {k : Nat} : ∀ {ns : List Str} {vs : List Int} {x : Str}, (∀ v ∈ vs, v.natAbs ≤ k) → (valOf ns vs x).natAbs ≤ k
  | [], _, _, _ => by simp [valOf]
  | _ :: _, [], _, _ => by simp [valOf]
  | n :: ns, v :: vs, x, h => by
    unfold valOf
    by_cases e : n = x
    · rw [if_pos e]; exact h v List.mem_cons_self
    · rw [if_neg e]; exact valOf_le fun w hw => h w (List.mem_cons_of_mem _ hw)
theorem valOf_look : ∀ {ns : List Str} {vs : List Int} {x : Str}, ns.length = vs.length → x ∈ ns → lookD (ns.map Sum.inr) (dI vs) (.inr x) = some (.int (valOf ns vs x))
  | [], _, _, _, h => by cases h
  | n :: ns, [], _, h, _ => by simp at h
  | n :: ns, v :: vs, x, h, hx => by
    unfold lookD valOf
    rw [List.map_cons, show dI (v :: vs) = .int v :: dI vs from rfl, List.zip_cons_cons, List.find?_cons]
    by_cases e : n = x
    · subst e
      simp
    · have : decide ((Sum.inr n : Key) = Sum.inr x) = false := by simp [e]
      rw [this, if_neg e]
      exact valOf_look (by simpa using h) ((List.mem_cons.mp hx).resolve_left fun z => e z.symm)
def Say.nm (s : Say) : List Str := s.front.map (·.2)
def holdF (b : Bd) (ns : List Str) : List (Bool × Str) → List Int → Bool
  | [], pl => decide (b.worth 3 (valOf ns pl) = 1)
  | p :: f, pl => if p.1 = true then holdF b ns f (pl ++ [0]) && holdF b ns f (pl ++ [1]) else holdF b ns f (pl ++ [0]) || holdF b ns f (pl ++ [1])
def Say.holds (s : Say) (pl : List Int) : Bool := holdF s.body s.nm (s.front.drop pl.length) pl
theorem Say.holds_all {s : Say} {pl : List Int} (h : pl.length = s.front.length) : s.holds pl = decide (s.body.worth 3 (valOf s.nm pl) = 1) := by
  unfold Say.holds
  rw [h, List.drop_length]
  rfl
theorem Say.holds_step {s : Say} {pl : List Int} {p : Bool × Str} (h : s.front[pl.length]? = some p) : s.holds pl = if p.1 = true then s.holds (pl ++ [0]) && s.holds (pl ++ [1]) else s.holds (pl ++ [0]) || s.holds (pl ++ [1]) := by
  unfold Say.holds
  obtain ⟨hi, rfl⟩ := List.getElem?_eq_some_iff.mp h
  rw [List.drop_eq_getElem_cons hi, holdF, List.length_append, List.length_append]
  rfl
def frD (p : Bool × Str) : D := .tup [.str (wordS p.1), .str p.2]
theorem flat_frD : ∀ f : List (Bool × Str), flatA (f.map frD) = true
  | [] => rfl
  | p :: f => by
    rw [List.map_cons, flatA, flat_frD f]
    simp [frD, flatD, flatA]
section
variable {s : Say} {Q : D → Prop} {E : Er → Prop}
instance : Stp (ixM (sayD s) (.int 1) Q E) (Q (bD s.body)) := ⟨fun q => ⟨_, rfl, q⟩⟩
instance : Stp (ixM (sayD s) (.int 0) Q E) (Q (.tup (s.front.map frD))) := ⟨fun q => ⟨_, rfl, q⟩⟩
instance {f : List (Bool × Str)} : Stp (lenM [.tup (List.map frD f)] Q E) (Q (.int f.length)) := ⟨fun q => by show Q (.int (f.map frD).length); rw [List.length_map]; exact q⟩
end
theorem zip2_map {α β : Type} (f : α → D) (g : β → D) : ∀ (xs : List α) (ys : List β), zip2 (xs.map f) (ys.map g) = (xs.zip ys).map fun p => .tup [f p.1, g p.2]
  | [], _ => rfl
  | _ :: _, [] => rfl
  | x :: xs, y :: ys => by
    have ih := zip2_map f g xs ys
    unfold zip2 at ih ⊢
    rw [List.map_cons, List.map_cons, List.zipWith_cons_cons, ih, List.zip_cons_cons, List.map_cons]
instance {w : Bool × Str} {Q : D → Prop} {E : Er → Prop} : Stp (ixM (frD w) (.int 0) Q E) (Q (.str (wordS w.1))) := ⟨fun q => ⟨_, rfl, q⟩⟩
theorem wordS_iff {b : Bool} : wordS b = "all" ↔ b = true := by
  cases b with
  | true => exact ⟨fun _ => rfl, fun _ => rfl⟩
  | false => exact ⟨fun h => absurd h (by decide), fun h => (nomatch h)⟩
theorem dct_zip {xs : List Str} {ns : List Int} (hn : xs.Nodup) (hl : xs.length = ns.length) : dctD (((xs.zip ns).map fun p => (p.1, D.int p.2)).foldl putP []) = .dct (xs.map Sum.inr) (dI ns) := by
  have e1 : ((xs.zip ns).map fun p => (p.1, D.int p.2)).map (·.1) = xs := by
    rw [List.map_map]
    have := List.map_fst_zip (l₁ := xs) (l₂ := ns) (by omega)
    exact this
  rw [putP_nd (by rw [e1]; exact hn)]
  unfold dctD
  have e2 : (xs.zip ns).map (·.1) = xs := List.map_fst_zip (by omega)
  have e3 : (xs.zip ns).map (·.2) = ns := List.map_snd_zip (by omega)
  congr 1
  · rw [List.map_map, List.map_map]
    have : xs.map (Sum.inr : Str → Key) = ((xs.zip ns).map (·.1)).map Sum.inr := by rw [e2]
    rw [this, List.map_map]
    rfl
  · rw [List.map_map, List.map_map]
    have : dI ns = ((xs.zip ns).map (·.2)).map D.int := by rw [e3]
    rw [this, List.map_map]
    rfl
end Wk

set_option Elab.async false
set_option linter.all false
set_option maxRecDepth 100000
set_option maxHeartbeats 4000000
namespace Wk
open PySem PySem.Spec PyProof.Rows L2
section
variable {K : PySem.W.Frag} {O : Ord} {E : XK} {nr : Nat} {Hs H : Hp} {σ : L2.St} {ρ : En}
end
section
variable {K : PySem.W.Frag} {O : Ord} {E : XK} {nr N : Nat} {tA : TA} {g : TG} {fA : En → MM (List D)} {u : D → Option (List (Nat × D))}
end
section
variable {nx bk ct : En → Prop} {rt : D → Prop} {ex : Er → Prop} {ρ ρ' ρ1 ρ2 : En} {fA : En → MM (List D)} {d i j : Nat} {vs : List Nat}
end
end Wk

set_option Elab.async false
set_option linter.all false
set_option maxRecDepth 100000
set_option maxHeartbeats 4000000
namespace Wk
open PySem PySem.Spec PyProof.Rows L2
section
variable {X : Cx}
theorem reads_ints {h : Heap} : ∀ {ns : List Int} {its : List Value}, Vals (ns.map V.int) its → ReadsAll h its (ns.map PyData.int) []
  | [], _, .nil => .nil
  | n :: ns, _, .cons r t => by
    obtain ⟨k, rfl⟩ := r
    exact .cons (as := []) (bs := []) (.int n k) (reads_ints t)
theorem depth_ints : ∀ ns : List Int, PyData.depthAll (ns.map PyData.int) = 0
  | [] => rfl
  | n :: ns => by
    show max (PyData.depth (.int n)) (PyData.depthAll (ns.map PyData.int)) = 0
    rw [depth_ints ns]
    rfl
def rMaxT (K : PySem.W.Frag) : List V → Hp → VK → Prop := fun vs H Q => ∃ (a : Addr) (ns : List Int), vs = [V.ref a] ∧ SqT K H a (ns.map V.int) ∧ 0 < ns.length ∧ ∀ m, m ∈ ns → (∀ y, y ∈ ns → y ≤ m) → Q (.int m) H
theorem foldl_max : ∀ (ns : List Int) (n : Int), ns.foldl max n ∈ n :: ns ∧ ∀ y ∈ n :: ns, y ≤ ns.foldl max n
  | [], n => ⟨by simp, fun y hy => by simp at hy; rw [hy]; exact Int.le_refl _⟩
  | k :: ns, n => by
    obtain ⟨h1, h2⟩ := foldl_max ns (max n k)
    show ns.foldl max (max n k) ∈ _ ∧ ∀ y ∈ n :: k :: ns, y ≤ ns.foldl max (max n k)
    have h3 := h2 (max n k) List.mem_cons_self
    refine ⟨?_, fun y hy => ?_⟩
    · rcases List.mem_cons.mp h1 with h | h
      · rw [h]
        by_cases c : n ≤ k
        · rw [Int.max_eq_right c]; simp
        · rw [Int.max_eq_left (by omega)]; simp
      · exact List.mem_cons_of_mem _ (List.mem_cons_of_mem _ h)
    · rcases List.mem_cons.mp hy with rfl | hy
      · omega
      · rcases List.mem_cons.mp hy with rfl | hy
        · omega
        · exact h2 y (List.mem_cons_of_mem _ hy)
theorem alike_ints (ns : List Int) : PySem.W.AlikeAll (ns.map PyData.int) := by
  refine ⟨fun x hx y hy => ?_, fun x hx => ?_⟩
  · obtain ⟨i, _, rfl⟩ := List.mem_map.mp hx
    obtain ⟨j, _, rfl⟩ := List.mem_map.mp hy
    rfl
  · obtain ⟨i, _, rfl⟩ := List.mem_map.mp hx
    exact fun z => by cases z
theorem cr_maxT (hc : X.calm = true) {k : Nat} (hr : Room k X.A) : CallR X (.builtin "max") (rMaxT X.K) := by
  intro pins s σ H vs us Q I r h
  obtain ⟨a, ns, rfl, hs, hne, q⟩ := h
  obtain ⟨its, rv, hl, _⟩ := I.tuple hs
  rw [Vals.ref1 r]
  match ns, hne, rv, q with
  | n :: ns, _, rv, q =>
    have hu := room1 hr
    refine PySem.W.max_tuple_data (I.ok.hd hc) hl (reads_ints rv) (alike_ints (n :: ns)) (by show _ + PyData.depthAll ((n :: ns).map PyData.int) < _; rw [depth_ints]; exact hu) fun i v h' tk bs hi hR hk => ?_
    rw [PySem.W.maxD_ints] at hR
    cases hR
    obtain ⟨h1, h2⟩ := foldl_max ns n
    exact ⟨.int _, H, I.kept hk, ⟨_, rfl⟩, q _ h1 h2⟩
def rMaxX (K : PySem.W.Frag) : List V → Hp → VK → Prop := fun vs H Q => rMax K vs H Q ∨ rMaxT K vs H Q
theorem cr_maxX (K : PySem.W.Frag) (e : X.K = K) (hc : X.calm = true) {k : Nat} (hr : Room k X.A) : CallR X (.builtin "max") (rMaxX K) := by subst e; exact CallR.or (cr_max hc) (cr_maxT hc hr)
end
def maxM : List D → M := fun ds Q _ => ∃ ns : List Int, (ds = [.lst (dI ns)] ∨ ds = [.tup (dI ns)]) ∧ 0 < ns.length ∧ ∀ m, m ∈ ns → (∀ y ∈ ns, y ≤ m) → Q (.int m)
section
variable {K : PySem.W.Frag} {O : Ord} {E : XK} {n : Nat}
instance : CbV K O E n (rMaxX K) maxM := ⟨fun Hs H xs ds Q o r m => by
  obtain ⟨Q0, E0, ⟨ns, h1, h2, h3⟩, hq, he⟩ := m
  have fin : ∀ m, m ∈ ns → (∀ y ∈ ns, y ≤ m) → Q (.int m) H := fun m g1 g2 => hq _ _ H (h3 m g1 g2) (O.refl H) (.int _) (FrD.nl fun _ z => by cases z)
  rcases h1 with rfl | rfl
  · cases r with
    | cons h r =>
      cases r
      cases h with
      | lst g1 g2 =>
        rw [rpInts_inv g2] at g1
        exact .inl ⟨_, ns, rfl, SqL.of g1, h2, fin⟩
  · cases r with
    | cons h r =>
      cases r
      cases h with
      | tup g1 g2 =>
        rw [rpInts_inv g2] at g1
        exact .inr ⟨_, ns, rfl, g1, h2, fin⟩⟩
instance {x : D} {b : Bool} {ns : List Int} {Q : D → Prop} {E : Er → Prop} [r : RowC x b ns] : Stp (maxM [x] Q E) (0 < ns.length ∧ ∀ m, m ∈ ns → (∀ y ∈ ns, y ≤ m) → Q (.int m)) := ⟨fun h => ⟨ns, by rw [r.eq]; cases b; exact .inl rfl; exact .inr rfl, h.1, h.2⟩⟩
end
end Wk

set_option Elab.async false
set_option linter.all false
set_option maxRecDepth 100000
set_option maxHeartbeats 4000000
namespace Wk
open PySem PySem.Spec PyProof.Rows L2
section
variable {K : PySem.W.Frag} {O : Ord} {E : XK} {nr n : Nat} {wi : TI} {te : TE} {fi : En → MM (List D)} {fe : En → M}
end
section
variable {nx bk ct : En → Prop} {rt : D → Prop} {ex : Er → Prop} {ρ ρ1 ρ2 ρ3 : En} {fi : En → MM (List D)} {fe : En → M} {n f j : Nat}
end
end Wk

set_option Elab.async false
set_option linter.all false
set_option maxRecDepth 100000
set_option maxHeartbeats 4000000
namespace Wk
open PySem PySem.Spec PyProof.Rows L2
end Wk

set_option Elab.async false
set_option linter.all false
set_option maxRecDepth 100000
set_option maxHeartbeats 4000000
namespace Wk
open PySem PySem.Spec PyProof.Rows PySem.W PySem.Calls L2
section
variable {K : PySem.W.Frag} {O : Ord} {E : XK} {n nr : Nat} {te : TE} {fe : En → M} {gs : TGs} {us : List D → Option (List (Nat × D))}
end
section
variable {nx bk ct : En → Prop} {rt : D → Prop} {ex : Er → Prop} {ρ ρ1 : En} {fe : En → M} {k j : Nat} {us : List D → Option (List (Nat × D))}
end
end Wk
namespace Wk
open PySem PySem.Spec PyProof.Rows L2
section
variable {Q : D → Prop} {E : Er → Prop} {A B : List (List Int)}
end
end Wk

set_option Elab.async false
set_option linter.all false
set_option maxRecDepth 100000
set_option maxHeartbeats 4000000
namespace Wk
open PySem PySem.Spec PyProof.Rows L2
def Say.degs (s : Say) : List Int := s.nm.map fun x => ((s.body.often x : Nat) : Int)
theorem Say.degs_len (s : Say) : s.degs.length = s.front.length := by simp [Say.degs, Say.nm]
end Wk
namespace Wk
open PySem PySem.Spec PyProof.Rows L2
end Wk
namespace Wk
open PySem PySem.Spec PyProof.Rows L2
end Wk
namespace Wk
open PySem PySem.Spec PyProof.Rows L2
end Wk
namespace Wk
open PySem PySem.Spec PyProof.Rows L2
end Wk
namespace Wk
open PySem PySem.Spec PyProof.Rows L2
end Wk
namespace Wk
open PySem PySem.Spec PyProof.Rows L2
end Wk
namespace Wk
open PySem PySem.Spec PyProof.Rows L2
end Wk
namespace Wk
open PySem PySem.Spec PyProof.Rows L2
section
variable {K : PySem.W.Frag} {O : Ord} {E : XK} {nr : Nat} {te : TE} {fe : En → M} {nx bk ct : En → Prop} {rt : D → Prop} {ex : Er → Prop} {ρ ρ1 ρ' : En}
end
end Wk

set_option Elab.async false
set_option linter.all false
set_option maxRecDepth 100000
set_option maxHeartbeats 4000000
namespace Wk
open PySem PySem.Spec PyProof.Rows L2
end Wk

set_option Elab.async false
set_option linter.all false
set_option maxRecDepth 100000
set_option maxHeartbeats 4000000
namespace Wk
open PySem PySem.Spec PyProof.Rows L2
def absKey : Value → Option Key
  | .int i _ => some (.inl i)
  | .str x _ => some (.inr x)
  | _ => none
def absE : List DictEntry → Option (List (Key × V))
  | [] => some []
  | e :: es => match absKey e.key, absV e.val, absE es with
    | some k, some v, some r => some ((k, v) :: r)
    | _, _, _ => none
theorem absKey_is {u : Value} {k : Key} (h : absKey u = some k) : keyIs k u = true := by
  cases u <;> first | (cases h; done) | skip
  all_goals
    cases h
    show _ = true
    simp [keyIs, Value.isInt, Value.isStrOf]
def TopD (w : World) (K : PySem.W.Frag) (d : Addr) (kvs : List (Key × V)) : Prop := (d == sysModules) = false ∧ (kvs.map (·.1)).Nodup ∧ ∃ ob es ep, K.lookup d = some ob ∧ ob.ExactDict ∧ ob.data = .dict es ep ∧ absE es.toList = some kvs ∧ es.toList.map (·.hash) = kvs.map fun p => keyH w p.1
theorem TopD.of {P : Program} {w : World} {h : Heap} {K : PySem.W.Frag} {d : Addr} {kvs : List (Key × V)} (T : TopD w K d kvs) (X : K.In h) : ∃ vs, KV kvs vs ∧ h.DictOf (mixKind P w) d vs := by
  obtain ⟨_, nd, ob, es, ep, hl, hx, hd, ha, hh⟩ := T
  have go : ∀ (l : List DictEntry) (r : List (Key × V)), absE l = some r → l.map (·.hash) = r.map (fun p => keyH w p.1) → ∃ vs : List (Key × Value), KV r vs ∧ (∀ e ∈ l, ∃ k, keyIs k e.key = true ∧ e.hash = keyH w k) ∧ Pairs (mixKind P w) l vs ∧ vs.map (·.1) = r.map (·.1) := by
    intro l
    induction l with
    | nil =>
      intro r h1 h2
      cases h1
      exact ⟨[], .nil, fun e he => (by cases he), .nil, rfl⟩
    | cons e l ih =>
      intro r h1 h2
      unfold absE at h1
      split at h1
      · rename_i k v r' e1 e2 e3
        cases h1
        simp only [List.map_cons, List.cons.injEq] at h2
        obtain ⟨vs, g1, g2, g3, g4⟩ := ih _ e3 h2.2
        refine ⟨(k, e.val) :: vs, .cons ⟨rfl, absV_rel e2⟩ g1, fun e' he => ?_, .cons (absKey_is e1) rfl g3, by rw [List.map_cons, List.map_cons, g4]⟩
        rcases List.mem_cons.mp he with rfl | he
        · exact ⟨k, absKey_is e1, h2.1⟩
        · exact g2 e' he
      · cases h1
  obtain ⟨vs, g1, g2, g3, g4⟩ := go _ _ ha hh
  exact ⟨vs, g1, ob, es, ep, X d ob hl, hx, hd, fun e he => g2 e (Array.mem_toList_iff.mpr he), g3, by rw [g4]; exact nd⟩
def tDTop (kvs : List (Key × V)) (ty : TE) : TE := fun σ H Q => ty σ H fun y H1 => ∃ k v, y = kV k ∧ valV kvs k = some v ∧ Q v H1
theorem pe_dtop {X : Cx} {o i : Expr} {pos : Pos} {d : Addr} {kvs : List (Key × V)} {ty : TE} (T : TopD X.w X.K d kvs) (ho : PE X o (tC (.ref d))) (hi : PE X i ty) (hs : NoSl i) : PE X (.Subscript o i pos) (tDTop kvs ty) := by
  refine ⟨fun pins s σ H Q I h => ?_⟩
  refine subD_of PySem.F.slot_dict_getitem.lookup hs (thn (ho.run pins s σ H (fun x H1 => x = .ref d ∧ H1 = H) I ⟨rfl, rfl⟩) fun u s1 ⟨x, H1, I1, rx, e1, e2⟩ => ?_)
  subst e1
  subst e2
  obtain rfl : u = Value.ref d := rx
  refine thn (hi.run pins s1 σ H1 _ I1 h) fun iv s2 ⟨y, H2, I2, ry, k, v, ey, hv, q2⟩ => ?_
  obtain ⟨vs, rel, dd⟩ := T.of (P := X.prog) I2.kIn
  obtain ⟨w', hw, rw'⟩ := RelO.some_of (v := v) (o := valueAt vs k) (by rw [← hv]; exact rel.val k)
  subst ey
  exact ⟨dd.typeIs, wpAny_getItem_of (kV_is ry) dd.mapOf hw ⟨v, H2, I2.tok _, rw', q2⟩⟩
def scD : V → Option D
  | .int i => some (.int i)
  | .str x => some (.str x)
  | _ => none
theorem scD_rp {K : PySem.W.Frag} {H : Hp} {v : V} {d : D} (h : scD v = some d) : Rp K H v d := by
  cases v <;> first
    | (cases h; done)
    | (cases h; first | exact .int _ | exact .str _)
def dTopM (kvs : List (Key × V)) : D → M
  | .str s => fun Q _ => ∃ d, (valV kvs (.inr s)).bind scD = some d ∧ Q d
  | _ => stuck
def fmtM : D → M
  | .str y => need (y.length ≤ 100000) (ret (.str y))
  | .int i => need (i.natAbs < 1000000000) (ret (.str (toString i)))
  | _ => stuck
theorem log_lt {i : Int} (h : i.natAbs < 1000000000) : i.natAbs.log2 < 1920 := by
  by_cases z : i.natAbs = 0
  · rw [z]
    decide
  · exact (Nat.log2_lt z).mpr (Nat.lt_of_lt_of_le h (Nat.le_trans (show 1000000000 ≤ 2 ^ 30 by decide) (Nat.pow_le_pow_right (by decide) (by decide))))
section
variable {K : PySem.W.Frag} {O : Ord} {E : XK} {n : Nat} {te : TE} {fe : En → M}
instance {kvs : List (Key × V)} [a : CV K O E 0 te fe] : CV K O E 0 (tDTop kvs te) (fun ρ => bnd (fe ρ) (dTopM kvs)) := ⟨fun Hs okS σ H Q ⟨ρ, r, o, m⟩ =>
  a.go Hs okS σ H _ ⟨ρ, r, o, (m.bnd 0).imp fun v H1 o1 ⟨d, _, rv, _, m1⟩ => by
    cases d <;> first
      | exact Rs.stuck m1
      | (cases rv
         obtain ⟨Q0, E0, ⟨d2, h1, h2⟩, hq, he⟩ := m1
         obtain ⟨v2, h3, h4⟩ := Option.bind_eq_some_iff.mp h1
         exact ⟨.inr _, v2, rfl, h3, hq _ _ H1 h2 (O.refl H1) (scD_rp h4) True.intro⟩)⟩⟩
instance [a : CV K O E 0 te fe] : CV K O E 0 (tFmt te) (fun ρ => bnd (fe ρ) fmtM) := ⟨fun Hs okS σ H Q ⟨ρ, r, o, m⟩ =>
  a.go Hs okS σ H _ ⟨ρ, r, o, (m.bnd 0).imp fun v H1 o1 ⟨d, _, rv, _, m1⟩ => by
    cases d <;> first
      | exact Rs.stuck m1
      | (cases rv
         obtain ⟨h5, m3⟩ := Rs.need m1
         first
           | exact .inl ⟨_, rfl, le_line h5, ret_str m3⟩
           | exact .inr ⟨_, rfl, log_lt h5, ret_str m3⟩)⟩⟩
def RsJ (O : Ord) (E : XK) (H : Hp) (m : MM Str) (Q : Str → Hp → Prop) : Prop := ∃ Q0 E0, m Q0 E0 ∧ (∀ out H', Q0 out → O.r H H' → Q out H') ∧ ∀ e, E0 e → RzE O E e H
class CVJ (K : PySem.W.Frag) (O : Ord) (E : XK) (ts : List TE) (f : outParam (En → Str → MM Str)) : Prop where
  go : ∀ Hs, O.ok Hs → ∀ (σ : L2.St) (H : Hp) (acc : Str) (Q : Str → Hp → Prop) (ρ : En), RelS K Hs H σ ρ → O.r Hs H → RsJ O E H (f ρ acc) Q → tJs ts acc σ H Q
instance : CVJ K O E [] (fun _ acc => ret acc) := ⟨fun Hs okS σ H acc Q ρ r o m => by
  obtain ⟨Q0, E0, hm, hq, he⟩ := m
  exact hq _ _ hm (O.refl H)⟩
def onJ (k : Str → MM Str) : D → MM Str
  | .str a => k a
  | _ => stuck
theorem app_len (x y : Str) : (x ++ y).length = x.length + y.length := by rw [tl_len, tl_app, List.length_append, ← tl_len, ← tl_len]
instance {t : TE} {ts : List TE} {ft : En → M} {fs : En → Str → MM Str} [a : CV K O E 0 t ft] [b : CVJ K O E ts fs] : CVJ K O E (t :: ts) (fun ρ acc => bnd (ft ρ) (onJ fun y => need (acc.length + y.length ≤ 100000) (fs ρ (acc ++ y)))) := ⟨fun Hs okS σ H acc Q ρ r o m => by
  obtain ⟨Q0, E0, hm, hq, he⟩ := m
  refine a.go Hs okS σ H _ ⟨ρ, r, o, _, E0, hm, fun d v H1 hd o1 rv _ => ?_, he⟩
  cases d <;> first
    | exact hd.elim
    | (cases rv
       refine ⟨_, rfl, ?_, b.go Hs okS σ H1 _ Q ρ (r.mono (O.ext o1)) (O.trans o o1) ⟨Q0, E0, hd.2, fun out H' q o2 => hq out H' q (O.trans o1 o2), fun e z => (he e z).mono o1⟩⟩
       rw [app_len]
       exact le_line hd.1)⟩
def tFs (ts : List TE) : TE := fun σ H Q => tJs ts Str.empty σ H fun out H1 => Q (.str out) H1
theorem pe_fs {X : Cx} {v1 v2 : Expr} {rest : List Expr} {ts : List TE} {pos : Pos} (h : PJ X (v1 :: v2 :: rest) ts) : PE X (.JoinedStr (v1 :: v2 :: rest) pos) (tFs ts) := pe_joined h
instance {ts : List TE} {fs : En → Str → MM Str} [b : CVJ K O E ts fs] : CV K O E 0 (tFs ts) (fun ρ => bnd (fs ρ Str.empty) fun out => ret (.str out)) := ⟨fun Hs okS σ H Q ⟨ρ, r, o, Q0, E0, hm, hq, he⟩ =>
  b.go Hs okS σ H Str.empty _ ρ r o ⟨_, E0, hm, fun out H' q o1 => hq _ _ H' q o1 (.str out) True.intro, he⟩⟩
end
section
variable {Q : D → Prop} {E : Er → Prop}
instance {y : Str} : Stp (fmtM (.str y) Q E) (y.length ≤ 100000 ∧ Q (.str y)) := ⟨id⟩
instance {k : Str → MM Str} {a : Str} {Qs : Str → Prop} : Stp (onJ k (.str a) Qs E) (k a Qs E) := ⟨id⟩
theorem dTop_go {kvs : List (Key × V)} {s : Str} {d : D} (h : (valV kvs (.inr s)).bind scD = some d) (q : Q d) : dTopM kvs (.str s) Q E := ⟨d, h, q⟩
end
end Wk

set_option Elab.async false
set_option linter.all false
set_option maxRecDepth 100000
set_option maxHeartbeats 4000000
namespace Wk
open PySem PySem.Spec PyProof.Rows L2 PpSet
def inS (l : List Str) : Str → Bool := fun k => decide (k ∈ l)
theorem disL_mem (ss : List Str) : ∀ (l : List Str) (x : Str), x ∈ ss.foldl disL l ↔ x ∈ l ∨ x ∈ ss := by
  induction ss with
  | nil => intro l x; simp
  | cons y ss ih =>
    intro l x
    rw [List.foldl_cons, ih, List.mem_cons]
    unfold disL
    by_cases h : y ∈ l
    · rw [if_pos h]
      constructor
      · rintro (h1 | h1)
        · exact .inl h1
        · exact .inr (.inr h1)
      · rintro (h1 | rfl | h1)
        · exact .inl h1
        · exact .inl h
        · exact .inr h1
    · rw [if_neg h, List.mem_append, List.mem_singleton, or_assoc]
theorem disN_snoc (l : List Str) (x : Str) : disN (l ++ [x]) = if inS l x = true then disN l else disN l + 1 := by
  have e : x ∈ l.foldl disL [] ↔ x ∈ l := by rw [disL_mem]; simp
  have e2 : disN (l ++ [x]) = (disL (l.foldl disL []) x).length := by unfold disN; rw [List.foldl_append]; rfl
  rw [e2]
  by_cases h : x ∈ l
  · rw [if_pos (show inS l x = true from decide_eq_true h), show disL (l.foldl disL []) x = l.foldl disL [] from if_pos (e.mpr h)]
    rfl
  · rw [if_neg (show ¬ inS l x = true from fun z => h (of_decide_eq_true z)), show disL (l.foldl disL []) x = l.foldl disL [] ++ [x] from if_neg fun z => h (e.mp z), List.length_append]
    rfl
theorem disN_le (l : List Str) : disN l ≤ l.length := by
  have gen : ∀ ss a : List Str, (ss.foldl disL a).length ≤ a.length + ss.length := by
    intro ss
    induction ss with
    | nil => intro a; exact Nat.le_refl _
    | cons x ss ih =>
      intro a
      have h1 := ih (disL a x)
      have h2 := disL_len (l := a) (x := x)
      rw [List.foldl_cons, List.length_cons]
      omega
  have := gen l []
  rw [List.length_nil] at this
  unfold disN
  omega
section
variable {P : Program} {w : World} {A : Around} {E : Value → Shared → Prop}
abbrev StrSet (P : Program) (w : World) (h : Heap) (S : Addr) (l : List Str) : Prop := h.SetOf (PySem.strKind P w) S (inS l) (disN l)
theorem StrSet.at {h h' : Heap} {S : Addr} {l : List Str} (z : StrSet P w h S l) (k : ∀ o, h.get? S = some o → h'.get? S = some o) : StrSet P w h' S l := let ⟨o, es, ep, tb, ho, rest⟩ := z; ⟨o, es, ep, tb, k o ho, rest⟩
theorem strs_loop {I S : Addr} {fp wr : List Addr} {G : Array GenState → Array GenState → Prop} {Pv : Nat → Value → Prop} {St : Nat → Shared → Prop} {R : Result → Shared → Prop} {xs : List Str} (W : WalksS P w A.in1 I fp wr G xs.length Pv St) (out : S ∉ fp) (few : xs.length ≤ 1000) (val : ∀ i v, Pv i v → ∃ x t, xs[i]? = some x ∧ v = .str x t) (m : Nat) :
    ∀ (i : Nat) (s : Shared), i + m = xs.length → St i s → StrSet P w s.heap S (xs.take i) → (∀ s', Moved (S :: wr) G s s' → StrSet P w s'.heap S xs → R (.ok (.ret .none)) s') → codeAny (model P w) A (.builtin "set.update.loop" ⟨[.ref S, .ref I], []⟩) R s := by
  have outw : S ∉ wr := fun z => out (W.sub S z)
  induction m with
  | zero =>
    intro i s hi st set hR
    obtain rfl : i = xs.length := by omega
    rw [List.take_length] at set
    refine codeAny_builtin F.entry_set_update_loop ((Around.under_plainId F.plain_set_update_loop _) ▸ ?_)
    show wpAny _ A.in1 (pyNext (.ref I) >>= _) _ _ _
    refine wpAny_bind (W.done s _ _ st fun s' mv => wpAny_pure (hR s' (mv.mono fun b hb => .tail _ hb) (set.at fun o e => mv.heap S o outw e)))
  | succ m ih =>
    intro i s hi st set hR
    refine codeAny_builtin F.entry_set_update_loop ((Around.under_plainId F.plain_set_update_loop _) ▸ ?_)
    show wpAny _ A.in1 (pyNext (.ref I) >>= _) _ _ _
    refine wpAny_bind (W.item i s _ _ (by omega) st fun v s1 pv st1 mv => ?_)
    obtain ⟨x, t, hx, rfl⟩ := val i v pv
    have set1 := set.at fun o e => mv.heap S o outw e
    have lt : disN (xs.take i) + 1 < scanBound := by
      have h1 := disN_le (xs.take i)
      have h2 : scanBound = 4096 := by decide
      rw [List.length_take] at h1
      omega
    show wpAny _ A.in1 (holding [Value.str x t] (setAdd S (.str x t)) >>= _) _ _ _
    unfold setAdd
    refine wpAny_bind (wpAny_holding (wpAny_holding (wpAny_bind ((PySem.strKind P w).pyHash (k := x) (strKind_is _ _ _ _) (wpAny_setAddHashed_of (knd := PySem.strKind P w) (s := { s1 with toks := s1.toks + 1 }) (strKind_is _ _ _ _) rfl set1 lt fun h2 sb set2 => wpAny_pure ⟨plainId_quiet F.plain_set_update_loop _, ?_⟩)))))
    have set3 : StrSet P w h2 S (xs.take (i + 1)) := by
      have e := take_snoc' hx
      refine SetOf_congr set2 (fun k => ?_) ?_
      · show (decide (k ∈ xs.take i) || decide (k = x)) = decide (k ∈ xs.take (i + 1))
        rw [e, Bool.eq_iff_iff]
        simp [List.mem_append]
      · rw [e, disN_snoc]
    refine ih (i + 1) _ (by omega) (W.frame _ s1 _ _ st1 (Nat.le_succ _) fun b hb o e => (sb.2 b fun (z : b = S) => out (z ▸ hb)).trans e) set3 fun s3 mv3 fin => hR s3 (Moved.trans W.gtrans ((mv.mono fun b hb => .tail _ hb).then_heap (Nat.le_succ _) fun b o nb e => (sb.2 b fun (z : b = S) => nb (z ▸ .head _)).trans e) mv3) fin
abbrev bare (led : Bool) : Obj := { cls := .type "set", dict := none, data := .set #[] 0 (.fresh 0 0 led) }
abbrev withBare (s : Shared) (led : Bool) : Shared := { s with heap := s.heap.push (bare led) }
theorem bare_in {h : Heap} {S : Addr} {led : Bool} {xs : List Str} (e : h.get? S = some (bare led)) : StrSet P w h S (xs.take 0) := SetOf_congr ((setObjOf_fresh (knd := PySem.strKind P w) led).setOf e (by decide)) (fun k => by rw [List.take_zero]; rfl) (by rw [List.take_zero]; rfl)
def Done (P : Program) (w : World) (s : Shared) (xs : List Str) : Value → Shared → Prop := fun r z => r = .none ∧ ∃ h' tk, z = { s with heap := h', toks := tk } ∧ StrSet P w h' s.heap.objs.size xs ∧ ∀ b o, b < s.heap.objs.size → s.heap.get? b = some o → h'.get? b = some o
theorem init_strs {s : Shared} {l : Addr} {items : Array Value} {xs : List Str} {led : Bool} (hh : A.in1.in1.handled = none) (hl : s.heap.IsList l items) (hi : StrsAre items.toList xs) (few : xs.length ≤ 1000) : codeAny (model P w) A (.call (.builtin "set.__init__") ⟨[.ref s.heap.objs.size, .ref l], []⟩) (wants (Done P w s xs) E) (withBare s led) := by
  have here : (withBare s led).heap.get? s.heap.objs.size = some (bare led) := Heap.get?_push_size _ rfl
  have size : items.size = xs.length := by rw [← StrsAre.len_eq hi, Array.length_toList]
  obtain ⟨⟨_, od, _, os⟩, there, e1, nl, e2⟩ := hl
  obtain rfl : _ = _ := e1
  obtain rfl : _ = _ := e2
  have lt : l < s.heap.objs.size := Heap.lt_size there
  have big : (withBare s led).heap.objs.size = s.heap.objs.size + 1 := Heap.size_push ..
  have isl : (withBare s led).heap.IsList l items := ⟨_, Heap.get?_push_of_some _ there, rfl, nl, rfl⟩
  have sub1 := PySem.F.sub_list_set
  have sub2 := PySem.F.sub_list_frozenset
  have nod : (Value.type "list" == Value.type "dict") = false := by decide
  have at2 : (withBare s led).heap.get? l = some { cls := .type "list", dict := od, data := .seq items nl, slots := os } := Heap.get?_push_of_some _ there
  refine codeAny_call_builtin PySem.F.called_set.init.plain PySem.F.entry_set_init (check_set_init_1 (⟨_, here, rfl⟩ : Shared.TypeIs (withBare s led) (.ref s.heap.objs.size) "set") ?_)
  unfold Builtin.«set.__init__» noKeywords Builtin.Frozenset.updateFrom
  generalize hI : pyIter = It
  wp_walk
  subst hI
  refine wpAny_pyIter_list isl (wpAny_bind (wpAny_runValue ?_))
  have nin : s.heap.objs.size ∉ [(withBare s led).heap.objs.size, l] := fun z => by
    rw [big] at z
    rcases List.mem_cons.mp z with z | z
    · exact absurd z (Nat.ne_of_lt (Nat.lt_succ_self _))
    · exact absurd lt (by rw [List.mem_singleton.mp z]; exact Nat.lt_irrefl _)
  have ne : l ≠ (withBare s led).heap.objs.size := by rw [big]; exact Nat.ne_of_lt (Nat.lt_succ_of_lt lt)
  refine strs_loop (xs := xs) (size ▸ (Walks.list hh _ l ne items).toS) nin few (fun i v hv => ?_) xs.length 0 _ (Nat.zero_add _) ⟨⟨_, Heap.get?_push_size _ rfl, rfl, rfl⟩, isl.push _⟩ (bare_in (Heap.get?_push_of_some _ here)) fun s' mv fin => ?_
  · obtain ⟨t, e⟩ := SS.strs_at hi i v (by rw [Array.getElem?_toList]; exact hv)
    have lt2 : i < xs.length := size ▸ (Array.getElem?_eq_some_iff.mp hv).1
    exact ⟨xs[i], t, List.getElem?_eq_getElem lt2, by rw [e, List.getD_eq_getElem?_getD, List.getElem?_eq_getElem lt2]; rfl⟩
  · obtain ⟨h', g', d', tk', os'⟩ := s'
    obtain rfl : g' = s.gens := mv.gens
    obtain rfl : d' = s.drawn := mv.drawn
    obtain rfl : os' = s.os := mv.os
    refine wpAny_pure (wpAny_pure ⟨rfl, h', tk', rfl, fin, fun b o hb e => mv.heap b o (fun z => ?_) (Heap.get?_push_of_some _ (Heap.get?_push_of_some _ e))⟩)
    rcases List.mem_cons.mp z with z | z
    · exact absurd hb (by rw [z]; exact Nat.lt_irrefl _)
    · exact absurd hb (by rw [List.mem_singleton.mp z, big]; exact Nat.not_lt_of_gt (Nat.lt_succ_self _))
theorem set_strs {s : Shared} {l : Addr} {items : Array Value} {xs : List Str} {Q : Value → Shared → Prop} (hh : A.handled = none) (hl : s.heap.IsList l items) (hi : StrsAre items.toList xs) (few : xs.length ≤ 1000) (h : ∀ h' tk, StrSet P w h' s.heap.objs.size xs → (∀ b o, b < s.heap.objs.size → s.heap.get? b = some o → h'.get? b = some o) → Q (.ref s.heap.objs.size) { s with heap := h', toks := tk }) : wpAny (model P w) A (call (.type "set") [.ref l]) Q E s := by
  obtain ⟨c, tl, mro⟩ := PySem.F.called_set.mro
  have k1 := PySem.F.called_set.made
  have k2 := PySem.F.called_set.sub
  have k3 := PySem.F.called_set.notType
  have k4 := PySem.F.called_set.canCreate
  have k5 := PySem.F.typeCall_set_1 (.ref l)
  refine wpAny_call (codeAny_of_tree (?_ : wpAny _ _ (callAny (.type "set") _) _ _ _))
  refine wpAny_pure ⟨Code.quiet_builtin _ (by decide +kernel), codeAny_builtin PySem.F.entry_type_call ((Around.under_plain (weight_type_call_type "set" [.ref l] []) rfl) ▸ ?_)⟩
  repeat (any_goals (first | assumption | wp_step))
  refine codeAny_mono (code_set_new_1 (.ref l) (E := E) (Q₁ := fun o z => ∃ led, o = .ref s.heap.objs.size ∧ z = withBare s led) fun led => ⟨led, rfl, rfl⟩) fun r z hr => ?_
  match r, hr with
  | .error e, hr => exact hr
  | .ok (.ret o), ⟨led, e1, e2⟩ =>
    subst e1 e2
    have here : (withBare s led).heap.get? s.heap.objs.size = some (bare led) := Heap.get?_push_size _ rfl
    have ty : Shared.TypeIs (withBare s led) (.ref s.heap.objs.size) "set" := ⟨_, here, rfl⟩
    have i1 := PySem.F.called_set.init.lookup
    have i2 := PySem.F.called_set.init.bind (.ref s.heap.objs.size)
    repeat (any_goals (first | assumption | wp_step))
    refine codeAny_mono (init_strs (P := P) (E := E) (led := led) (by simp [hh]) hl hi few) fun r z hr => ?_
    match r, hr with
    | .error e, hr => exact hr
    | .ok (.ret o), ⟨e1, h', tk, e2, g1, g2⟩ =>
      subst e1 e2
      repeat (any_goals (first | assumption | wp_step))
      exact h _ _ g1 g2
    | .ok .next, hr => exact hr.elim
    | .ok .brk, hr => exact hr.elim
    | .ok .cont, hr => exact hr.elim
  | .ok .next, hr => exact hr.elim
  | .ok .brk, hr => exact hr.elim
  | .ok .cont, hr => exact hr.elim
end
def tLenSS (K : PySem.W.Frag) (ta : TE) : TE := fun σ H Q => ta σ H fun x H1 => ∃ l, ∃ xs : List Str, x = .ref l ∧ SqL K H1 l (xs.map V.str) ∧ xs.length ≤ 1000 ∧ Q (.int (disN xs : Nat)) H1
theorem pe_lenSS {X : Cx} (K : PySem.W.Frag) (eK : X.K = K) {a : Expr} {ta : TE} {p p2 q pos : Pos} (calm : X.calm = true) (l1 : Gl X "len") (l2 : X.mg "len" = none) (t1 : Gl X "set") (t2 : X.mg "set" = none) (ha : PE X a ta) (na : starEach [a] X.env = (false, eval a X.env) :: starEach [] X.env := by rfl) : PE X (.Call (.Name "len" p) [.Call (.Name "set" p2) [a] [] q] [] pos) (tLenSS K ta) := by
  subst eK
  refine ⟨fun pn s σ H Q I h => Call_ (ld_blt I l1 l2 boot_len (callWith_builtin1 (args_cons (Call_ (ld_blt I t1 t2 boot_set (callWith_type1 (args_cons (thn (ha.run pn s σ H _ I h) fun v z ⟨x, H1, J, r1, l, xs, e1, sq, few, fin⟩ => args_nil ?_) na) na rfl))) rfl) rfl rfl))⟩
  subst e1
  cases r1
  obtain ⟨its, rv, pl, hz⟩ := J.list sq
  refine set_strs (J.ok.hd calm) pl.isList (by simpa using strsAre_of rv) few fun h' tk set keep => args_nil ?_
  obtain ⟨o, es, ep, tb, ho, ex, hd, _, _, _, fits, many⟩ := set
  have J2 : Inv X pn σ H1 { z with heap := h', toks := tk } := J.kept fun b o e => keep b o (Heap.lt_size e) e
  have := disN_le xs
  exact call_len_set ho ex hd fits (by rw [many]; omega) ⟨.int (disN xs : Nat), H1, J2.tok _, ⟨_, by rw [many]⟩, fin⟩
def lenSS : D → M
  | .lst ds => fun Q _ => ∃ xs : List Str, ds = xs.map D.str ∧ xs.length ≤ 1000 ∧ Q (.int (disN xs : Nat))
  | _ => stuck
section
variable {K : PySem.W.Frag} {O : Ord} {E : XK} {n : Nat} {ta : TE} {fa : En → M}
instance [c : CV K O E 0 ta fa] : CV K O E n (tLenSS K ta) (fun ρ => bnd (fa ρ) lenSS) := ⟨fun Hs okS σ H Q ⟨ρ, r, o, m⟩ =>
  c.go Hs okS σ H _ ⟨ρ, r, o, (m.bnd 0).imp fun v H1 o1 ⟨d, _, rv, _, m1⟩ => by
    cases d <;> first
      | exact Rs.stuck m1
      | skip
    obtain ⟨Q0, E0, ⟨xs, rfl, few, q⟩, hq, he⟩ := m1
    cases rv with
    | lst g1 g2 =>
      rw [rpStrs_inv g2] at g1
      exact ⟨_, xs, rfl, SqL.of g1, few, hq _ _ H1 q (O.refl H1) (.int _) (FrD.nl fun _ z => by cases z)⟩⟩⟩
instance {xs : List Str} {Q : D → Prop} {E : Er → Prop} : Stp (lenSS (.lst (List.map D.str xs)) Q E) (xs.length ≤ 1000 ∧ Q (.int (disN xs : Nat))) := ⟨fun ⟨h, q⟩ => ⟨xs, rfl, h, q⟩⟩
end
end Wk

namespace Wk
open PySem PySem.Spec PyProof.Rows L2

local macro_rules | `(tactic| walk_at "side") => `(tactic| first | assumption | decide | exact primes_pos (by assumption) | omega | (dsimp only [CDiv, CMul, CPow]; omega))
local macro_rules | `(tactic| walk_at "hp") => `(tactic| first | assumption | exact upd_same | ((refine' Eq.trans (upd_ne (by first | assumption | exact Ne.symm (by assumption))) ?m); (case m => walk_at "hp")) | ((refine' (show L2.Same _ _ by assumption) _ _ ?m); (case m => walk_at "hp")) | ((refine' hp_monoL (show LamX.ExtN _ _ by assumption) ?m); (case m => walk_at "hp")) | ((refine' hp_monoT (show LamX.ExtN _ _ by assumption) ?m); (case m => walk_at "hp")))
local macro_rules | `(tactic| walk_at "sq") => `(tactic| first | assumption | ((refine' sqL ?m); (case m => walk_at "hp")) | ((refine' sqT ?m); (case m => walk_at "hp")) | exact Or.inl (by assumption) | exact Or.inr (by assumption) | ((refine' Sq.mono ?m (show L2.Same _ _ by assumption)); (case m => walk_at "sq")) | ((refine' Sq.monoN ?m (show LamX.ExtN _ _ by assumption)); (case m => walk_at "sq")))
local macro_rules | `(tactic| walk_at "drw") => `(tactic| first | assumption | ((refine' Drw.mono ?m (show L2.Same _ _ by assumption)); (case m => walk_at "drw")) | ((refine' Drw.monoN ?m (show LamX.ExtN _ _ by assumption)); (case m => walk_at "drw")))
local macro_rules | `(tactic| walk_at "same") => `(tactic| first | assumption | exact L2.Same.refl _ | ((refine' L2.Same.trans ?m (show L2.Same _ _ by assumption)); (case m => walk_at "same")))
local macro_rules | `(tactic| walk_at "dp") => `(tactic| first | assumption | exact Dp.non | exact Dp.bl _ | exact Dp.int _ | exact Dp.str _ | ((refine' Dp.lst (SqL.of ?m1) ?m); (case m1 => walk_at "hp"); (case m => walk_at "dpa")) | ((refine' Dp.tup (SqT.of ?m1) ?m); (case m1 => walk_at "hp"); (case m => walk_at "dpa")) | ((refine' Dp.tup ?m1 ?m); (case m1 => assumption); (case m => walk_at "dpa")) | ((refine' Dp.mono (show L2.Same _ _ by assumption) ?m); (case m => walk_at "dp")) | ((refine' Dp.monoN (show LamX.ExtN _ _ by assumption) ?m); (case m => walk_at "dp")))
local macro_rules | `(tactic| walk_at "dpa") => `(tactic| first | assumption | exact DpAll.nil | exact dpInts _ | ((refine' DpAll.cons ?m1 ?m2); (case m1 => walk_at "dp"); (case m2 => walk_at "dpa")) | ((refine' DpAll.mono (show L2.Same _ _ by assumption) ?m); (case m => walk_at "dpa")) | ((refine' DpAll.monoN (show LamX.ExtN _ _ by assumption) ?m); (case m => walk_at "dpa")))
local macro_rules | `(tactic| walk_at "yes") => `(tactic| first | with_reducible rfl | assumption | omega)
local macro_rules | `(tactic| walk_at "no") => `(tactic| first | assumption | omega | (intro h'; cases h'; done))
local macro_rules | `(tactic| walk_at "ty") => `(tactic| first | assumption | exact .base .non | exact .base (.bl _) | exact .base (.int _) | exact .base (.str _) | exact tyL (by assumption) | exact tyT (by assumption) | exact .base (.lst (by walk_at "hp")) | exact .base (.tup (by walk_at "hp")) | ((refine' tyX_mono (show L2.Same _ _ by assumption) ?m); (case m => walk_at "ty")))
local macro_rules | `(tactic| walk_at "kit") => `(tactic| first | with_reducible exact kt_NoneType_bool | with_reducible exact kt_NoneType_int | with_reducible exact kt_NoneType_str | with_reducible exact kt_NoneType_list | with_reducible exact kt_NoneType_tuple | with_reducible exact kt_NoneType_is | with_reducible exact kt_bool_bool | with_reducible exact kt_bool_int | with_reducible exact kt_bool_str | with_reducible exact kt_bool_list | with_reducible exact kt_bool_tuple | with_reducible exact kt_bool_is | with_reducible exact kt_int_bool | with_reducible exact kt_int_int | with_reducible exact kt_int_str | with_reducible exact kt_int_list | with_reducible exact kt_int_tuple | with_reducible exact kt_int_is | with_reducible exact kt_str_bool | with_reducible exact kt_str_int | with_reducible exact kt_str_str | with_reducible exact kt_str_list | with_reducible exact kt_str_tuple | with_reducible exact kt_str_is | with_reducible exact kt_list_bool | with_reducible exact kt_list_int | with_reducible exact kt_list_str | with_reducible exact kt_list_list | with_reducible exact kt_list_tuple | with_reducible exact kt_list_is | with_reducible exact kt_tuple_bool | with_reducible exact kt_tuple_int | with_reducible exact kt_tuple_str | with_reducible exact kt_tuple_list | with_reducible exact kt_tuple_tuple | with_reducible exact kt_tuple_is)
local macro_rules | `(tactic| walk_at "py1s") => `(tactic| first
  | with_reducible apply stp1
  | (with_reducible refine g_useN (by with_reducible assumption) ?_)
  | ((with_reducible refine' g_eq ?e ?_); (case e => rfl))
  | ((with_reducible refine' g_ne ?e ?_); (case e => rfl))
  | ((with_reducible refine' g_I ?e ?_); (case e => walk_at "side"))
  | ((with_reducible refine' g_mk ?e ?_); (case e => first | exact Nat.le_of_ble_eq_true rfl | omega); intro p' H' n' s' e')
  | ((with_reducible refine' g_ixQ ?e1 ?e2 ?_); (case e1 => walk_at "sq"); (case e2 => first | rfl | assumption))
  | ((with_reducible refine' g_lenQ ?e1 ?_); (case e1 => walk_at "sq"))
  | ((with_reducible refine' g_listQ ?e1 ?_); (case e1 => walk_at "sq"); intro p' H' n' s' e')
  | ((with_reducible refine' g_tupQ ?e1 ?_); (case e1 => walk_at "sq"); intro p' H' s' e')
  | ((with_reducible refine' g_inQ ?e1 ?e2 ?e3 ?_); (case e1 => walk_at "sq"); (case e2 => rfl); (case e3 => rfl))
  | ((with_reducible refine' g_notInQ ?e1 ?e2 ?e3 ?_); (case e1 => walk_at "sq"); (case e2 => rfl); (case e3 => rfl))
  | ((with_reducible refine' g_setL ?e1 ?e2 ?_); (case e1 => walk_at "hp"); (case e2 => first | rfl | assumption))
  | ((with_reducible refine' g_rng1 ?e1 ?_); (case e1 => walk_at "side"))
  | ((with_reducible refine' g_rng2 ?e1 ?_); (case e1 => walk_at "side"))
  | ((with_reducible refine' g_isi ?e1 ?e2 ?e3 ?_); (case e1 => exact ClsV.ty _); (case e2 => walk_at "ty"); (case e3 => walk_at "kit"))
  | ((with_reducible refine' g_isiT ?e0 ?e1 ?e2 ?e3 ?_); (case e0 => walk_at "hp"); (case e1 => exact .cons (ClsV.ty _) (.cons (ClsV.ty _) .nil)); (case e2 => walk_at "ty"); (case e3 => walk_at "kit"))
  | ((with_reducible refine' g_iteY ?e ?_); (case e => walk_at "yes"))
  | ((with_reducible refine' g_iteN ?e ?_); (case e => walk_at "no"))
  | ((with_reducible refine' g_iteNY ?e ?_); (case e => walk_at "yes"))
  | ((with_reducible refine' g_iteNN ?e ?_); (case e => walk_at "no"))
  | walk_at "call1"
  | (with_reducible refine g_iteD (fun e' => ?_) (fun e' => ?_)) | (with_reducible refine g_iteND (fun e' => ?_) (fun e' => ?_)))
local macro_rules | `(tactic| walk_at "py1") => `(tactic| first | walk_at "py1s" | (with_reducible refine g_seqN (fun N' hN' => ?_)))
local macro_rules | `(tactic| walk_at "st") => `(tactic| ((with_reducible refine g_seqN (fun N' hN' => ?_)); repeat' (walk_at "py1s")))
local macro_rules | `(tactic| walk_at "py") => `(tactic| repeat' (walk_at "py1"))

local macro_rules | `(tactic| walk_at "tabs") => `(tactic| first | assumption | ((refine' tabs_mono ?m (show L2.Same _ _ by assumption)); (case m => walk_at "tabs")))
local macro_rules | `(tactic| walk_at "call1") => `(tactic| first
  | ((with_reducible refine' g_rangeV ?_); intro p' H' n' s' e')
  | ((with_reducible refine' g_notInR ?e1 ?_); (case e1 => walk_at "hp")))
local macro_rules | `(tactic| walk_at "lcw") => `(tactic| first | assumption | ((refine' lcw_of ?n ?s ?e ?d); (case n => assumption); (case s => walk_at "same"); (case e => walk_at "hp"); (case d => walk_at "dpa")))
local macro_rules | `(tactic| walk_at "rests") => `(tactic| first | assumption | exact Rests.nil | exact Rests.cons (by omega) (by walk_at "rests"))
local macro_rules | `(tactic| walk_at "ints") => `(tactic| first | rfl | exact intsOf_map _ | assumption)
local macro_rules | `(tactic| walk_at "call1") => `(tactic| first
  | ((with_reducible refine' g_sqs ?e1 ?e2 ?_); (case e1 => walk_at "sq"); (case e2 => first | rfl | assumption))
  | ((with_reducible refine' g_appN ?e1 ?_); (case e1 => first | assumption | exact lcn_of (by walk_at "lcw") (by walk_at "tabs")); intro B' y' s' t' d')
  | ((with_reducible refine' g_appW ?e1 ?_); (case e1 => walk_at "lcw"); intro B' y' s' d')
  | ((with_reducible refine' app_end ?e1 ?e2 ?e3 ?e4 ?e5 ?_); (case e1 => assumption); (case e2 => assumption); (case e3 => walk_at "same"); (case e4 => walk_at "dp"); (case e5 => first | assumption | exact Nat.le_of_ble_eq_true rfl | omega); intro H' w'; have s' := LcW.same w'; have d' := LcW.dpl w')
  | ((with_reducible refine' app_endN ?e1 ?e2 ?e3 ?e0 ?e4 ?e5 ?_); (case e1 => assumption); (case e2 => assumption); (case e3 => walk_at "extn"); (case e0 => walk_at "tabs"); (case e4 => walk_at "dp"); (case e5 => first | assumption | exact Nat.le_of_ble_eq_true rfl | omega); intro H' w'; have s' := LcN.ext w'; have t' := LcN.tabs w'; have d' := LcN.dpl w'))
local macro_rules | `(tactic| walk_at "extn") => `(tactic| first | assumption | exact LamX.ExtN.refl _ | ((refine' LamX.ExtN.trans ?m (show LamX.ExtN _ _ by assumption)); (case m => walk_at "extn")) | ((refine' LamX.ExtN.trans ?m (LamX.ExtN.of (show L2.Same _ _ by assumption))); (case m => walk_at "extn")))
local macro_rules | `(tactic| walk_at "shd") => `(tactic| first | assumption | exact ShD.int _ | exact ShD.non | exact ShD.bool _ | exact ShD.str (by decide +kernel) | exact ShA.list (ShA.ints _) | exact ShA.tuple (ShA.ints _) | (refine' ShA.list ?m; (case m => walk_at "sha")) | (refine' ShA.tuple ?m; (case m => walk_at "sha")))
local macro_rules | `(tactic| walk_at "sha") => `(tactic| first | assumption | exact ShA.nil | exact ShA.ints _ | (refine' ShA.cons ?m1 ?m2; (case m1 => walk_at "shd"); (case m2 => walk_at "sha")))
local macro_rules | `(tactic| walk_at "call1") => `(tactic| first
  | ((with_reducible refine' g_cat ?e1 ?e2 ?e3 ?_); (case e1 => walk_at "hp"); (case e2 => walk_at "hp"); (case e3 => first | assumption | exact Nat.le_of_ble_eq_true rfl | (simp; omega)); intro p' H' n' s' e')
  | ((with_reducible refine' g_rep ?e1 ?e2 ?e3 ?_); (case e1 => walk_at "hp"); (case e2 => first | assumption | omega); (case e3 => first | assumption | exact Nat.le_of_ble_eq_true rfl | (simp; omega)); intro p' H' n' s' e')
  | ((with_reducible refine' g_revQ ?e1 ?_); (case e1 => walk_at "sq"); intro p' H' n' s' e')
  | ((with_reducible refine' g_lstRg ?e1 ?_); (case e1 => first | assumption | exact RgOk.of_le (by omega) (by omega) (by omega) (by omega)); intro p' H' n' s' e')
  | ((with_reducible refine' g_eqD ?e1 ?e2 ?e3 ?e4 ?_); (case e1 => walk_at "dp"); (case e2 => walk_at "dp"); (case e4 => walk_at "eqd"); (case e3 => exact shaped_of (n := 20) (by walk_at "shd") (by decide)))
  | ((with_reducible refine' g_neD ?e1 ?e2 ?e3 ?e4 ?_); (case e1 => walk_at "dp"); (case e2 => walk_at "dp"); (case e4 => walk_at "eqd"); (case e3 => exact shaped_of (n := 20) (by walk_at "shd") (by decide))))
local macro_rules | `(tactic| walk_at "lam") => `(tactic| first | assumption | ((refine' LamAt.same ?m (show L2.Same _ _ by assumption)); (case m => walk_at "lam")) | ((refine' LamAt.ext ?m (show LamX.ExtN _ _ by assumption)); (case m => walk_at "lam")))
local macro_rules | `(tactic| walk_at "call1") => `(tactic| first
  | ((with_reducible refine' g_lamV ?e1 ?_); (case e1 => walk_at "tabs"); intro f' H' x' t' n' l')
  | ((with_reducible refine' g_appA ?e1 ?e2 ?_); (case e1 => first | assumption | exact lca_of (by assumption) (by assumption) (by assumption) (by walk_at "lam") (by walk_at "tabs")); (case e2 => exact Nat.lt_of_succ_le (Nat.le_of_ble_eq_true rfl)); intro H' w'; have s' := LcA.ext w'; have t' := LcA.tabs w')
  | ((with_reducible refine' g_rTry ?e1 ?e2 ?_); (case e1 => walk_at "lam"); (case e2 => first | with_reducible exact mem0 | with_reducible exact mem1 | with_reducible exact mem2 | with_reducible exact mem3)))
local macro_rules | `(tactic| walk_at "call1") => `(tactic| ((with_reducible refine' g_sum ?e1 ?_); (case e1 => first | exact SqL.of (by walk_at "hp"))))

local macro_rules | `(tactic| walk_at "vside") => `(tactic| first | with_reducible rfl | with_reducible assumption | exact True.intro | omega | assumption | (dsimp only [CDiv, CMul, CPow]; omega) | (simp only [dI_len, rngD_len, zip2_len, bt_len, prodL_len, List.length_append, List.length_cons, List.length_nil, List.length_map, List.length_reverse, List.length_range, List.length_zipWith, List.length_set, List.length_replicate]; omega) | exact Nat.le_of_ble_eq_true rfl | exact ⟨rfl, rfl⟩ | rfl | decide)
local macro_rules | `(tactic| walk_at "vix") => `(tactic| first | assumption | rfl)
local macro_rules | `(tactic| walk_at "vcall") => `(tactic| fail "no call")
local macro_rules | `(tactic| walk_at "v1s") => `(tactic| first
  | with_reducible apply stp1
  | ((with_reducible refine useE (by with_reducible assumption) ?_); first | (with_reducible exact WkE.refl _) | exact WkE.refl _ | (walk_at "vwk"; done) | refine WkE.of_eq ?_)
  | walk_at "vuse"
  | ((with_reducible refine' And.intro ?e ?_); (case e => walk_at "vside"))
  | ((with_reducible refine' ix_int ?e ?_); (case e => walk_at "vix"))
  | ((with_reducible refine' ix_row ?e ?_); (case e => assumption))
  | walk_at "vcall"
  | ((with_reducible refine' g_iteY ?e ?_); (case e => walk_at "vyes"))
  | ((with_reducible refine' g_iteN ?e ?_); (case e => walk_at "vno"))
  | ((with_reducible refine' g_iteNY ?e ?_); (case e => walk_at "vyes"))
  | ((with_reducible refine' g_iteNN ?e ?_); (case e => walk_at "vno"))
  | (with_reducible refine g_iteD (fun e' => ?_) (fun e' => ?_)) | (with_reducible refine g_iteND (fun e' => ?_) (fun e' => ?_)))
local macro_rules | `(tactic| walk_at "vyes") => `(tactic| first | with_reducible rfl | assumption | omega)
local macro_rules | `(tactic| walk_at "vno") => `(tactic| first | assumption | omega | (intro h'; cases h'; done))
local macro_rules | `(tactic| walk_at "v1") => `(tactic| first | walk_at "v1s" | walk_at "vcut")
local macro_rules | `(tactic| walk_at "v") => `(tactic| repeat' (walk_at "v1"))

set_option hygiene false in
local macro_rules | `(tactic| walk_at "vuse") => `(tactic| (with_reducible refine vUseN hN' ?_; clear hN' N'))
set_option hygiene false in
local macro_rules | `(tactic| walk_at "vcut") => `(tactic| (with_reducible refine vSeqN (fun N' hN' => ?_)))
local macro_rules | `(tactic| walk_at "vwk") => `(tactic| repeat' (first | exact WkE.nil | refine WkE.cons (by first | with_reducible exact Wk1.refl _ | exact Wk1.no _ | exact Wk1.fz _ | exact Wk1.fr _ _ | exact Wk1.fs _ _ | exact Wk1.refl _) ?_))
local macro_rules | `(tactic| walk_at "vrests") => `(tactic| first | assumption | exact Rests.nil.cons (by first | assumption | omega) | exact Rests.nil)
local macro_rules | `(tactic| walk_at "vrestsN") => `(tactic| first | assumption | (intro h'; have h2' := Rests.head h'; omega))

def topS (i : Nat) : Stmt := PySem.Challenge.pw_weaklook_k20_sayings_that_are_none.main.body.getD i (.Pass ⟨0, 0, 0, 0⟩)
abbrev s_law_begin : Stmt := topS 53
theorem sc_law_begin : FnScope ["_law_script"] ["_law_script"] (defScope s_law_begin) := ⟨rfl, rfl, rfl, by decide +kernel, rfl, by decide +kernel, by decide +kernel⟩
abbrev s_law_pick : Stmt := topS 48
theorem sc_law_pick : FnScope ["_law_draw", "_law_many", "_law_cell", "_law_got"] ["_law_draw", "_law_many"] (defScope s_law_pick) := ⟨rfl, rfl, rfl, by decide +kernel, rfl, by decide +kernel, by decide +kernel⟩
abbrev s_law_one : Stmt := topS 49
theorem sc_law_one : FnScope ["_law_draw", "_law_some"] ["_law_draw", "_law_some"] (defScope s_law_one) := ⟨rfl, rfl, rfl, by decide +kernel, rfl, by decide +kernel, by decide +kernel⟩
abbrev s_law_body : Stmt := topS 55
theorem sc_law_body : FnScope ["_law_draw", "_law_names", "_law_kit", "_law_room", "_law_fork", "_law_first", "_law_name"] ["_law_draw", "_law_names", "_law_kit", "_law_room"] (defScope s_law_body) := ⟨rfl, rfl, rfl, by decide +kernel, rfl, by decide +kernel, by decide +kernel⟩
abbrev s_law_name_drawn : Stmt := topS 54
theorem sc_law_name_drawn : FnScope ["_law_draw", "_law_taken", "_law_letters", "_law_size", "_law_word", "_law_k", "_law_sign"] ["_law_draw", "_law_taken"] (defScope s_law_name_drawn) := ⟨rfl, rfl, rfl, by decide +kernel, rfl, by decide +kernel, by decide +kernel⟩
abbrev s_law_saying : Stmt := topS 56
theorem sc_law_saying : FnScope ["_law_draw", "_law_most", "_law_times_of", "_law_names", "_law_front", "_law_k", "_law_counts", "_law_name", "_law_kit"] ["_law_draw", "_law_most", "_law_times_of"] (defScope s_law_saying) := ⟨rfl, rfl, rfl, by decide +kernel, rfl, by decide +kernel, by decide +kernel⟩
abbrev s_law_names_in : Stmt := topS 50
theorem sc_law_names_in : FnScope ["_law_saying_here", "_law_word", "_law_name"] ["_law_saying_here"] (defScope s_law_names_in) := ⟨rfl, rfl, rfl, by decide +kernel, rfl, by decide +kernel, by decide +kernel⟩
abbrev s_law_good_body : Stmt := topS 61
theorem sc_law_good_body : FnScope ["_law_body_here", "_law_names", "_law_room", "_law_b"] ["_law_body_here", "_law_names", "_law_room"] (defScope s_law_good_body) := ⟨rfl, rfl, rfl, by decide +kernel, rfl, by decide +kernel, by decide +kernel⟩
abbrev s_law_bodies : Stmt := topS 51
theorem sc_law_bodies : FnScope ["_law_body_here", "_law_found", "_law_inner_one"] ["_law_body_here"] (defScope s_law_bodies) := ⟨rfl, rfl, rfl, by decide +kernel, rfl, by decide +kernel, by decide +kernel⟩
abbrev s_law_degrees : Stmt := topS 52
theorem sc_law_degrees : FnScope ["_law_saying_here", "_law_found", "_law_name", "_law_b"] ["_law_saying_here"] (defScope s_law_degrees) := ⟨rfl, rfl, rfl, by decide +kernel, rfl, by decide +kernel, by decide +kernel⟩
abbrev s_law_good : Stmt := topS 62
theorem sc_law_good : FnScope ["_law_saying_here", "_law_names", "_law_word", "_law_name", "_law_letters", "_law_sign"] ["_law_saying_here"] (defScope s_law_good) := ⟨rfl, rfl, rfl, by decide +kernel, rfl, by decide +kernel, by decide +kernel⟩
abbrev s_law_bent_inner : Stmt := topS 59
theorem sc_law_bent_inner : FnScope ["_law_draw", "_law_body_here", "_law_names", "_law_fork", "_law_k"] ["_law_draw", "_law_body_here", "_law_names"] (defScope s_law_bent_inner) := ⟨rfl, rfl, rfl, by decide +kernel, rfl, by decide +kernel, by decide +kernel⟩
abbrev s_law_bent_saying : Stmt := topS 60
theorem sc_law_bent_saying : FnScope ["_law_draw", "_law_saying_here", "_law_front", "_law_body_here", "_law_names", "_law_fork", "_law_k", "_law_odd"] ["_law_draw", "_law_saying_here"] (defScope s_law_bent_saying) := ⟨rfl, rfl, rfl, by decide +kernel, rfl, by decide +kernel, by decide +kernel⟩
abbrev s_law_tried : Stmt := topS 57
theorem sc_law_tried : FnScope ["_law_ask", "_law_found", "_law_word", "e"] ["_law_ask"] (defScope s_law_tried) := ⟨rfl, rfl, rfl, by decide +kernel, rfl, by decide +kernel, by decide +kernel⟩
abbrev s_is_body : Stmt := topS 29
theorem sc_is_body : FnScope ["body", "names", "room", "word", "rest", "one"] ["body", "names", "room"] (defScope s_is_body) := ⟨rfl, rfl, rfl, by decide +kernel, rfl, by decide +kernel, by decide +kernel⟩
abbrev s_inner : Stmt := topS 25
theorem sc_inner : FnScope ["body"] ["body"] (defScope s_inner) := ⟨rfl, rfl, rfl, by decide +kernel, rfl, by decide +kernel, by decide +kernel⟩
abbrev s_parts_of : Stmt := topS 26
theorem sc_parts_of : FnScope ["body", "found", "one"] ["body"] (defScope s_parts_of) := ⟨rfl, rfl, rfl, by decide +kernel, rfl, by decide +kernel, by decide +kernel⟩
abbrev s_often : Stmt := topS 27
theorem sc_often : FnScope ["name", "body", "one"] ["name", "body"] (defScope s_often) := ⟨rfl, rfl, rfl, by decide +kernel, rfl, by decide +kernel, by decide +kernel⟩
abbrev s_is_small : Stmt := topS 31
theorem sc_is_small : FnScope ["body", "names", "name"] ["body", "names"] (defScope s_is_small) := ⟨rfl, rfl, rfl, by decide +kernel, rfl, by decide +kernel, by decide +kernel⟩
abbrev s_is_name : Stmt := topS 24
theorem sc_is_name : FnScope ["text", "sign"] ["text"] (defScope s_is_name) := ⟨rfl, rfl, rfl, by decide +kernel, rfl, by decide +kernel, by decide +kernel⟩
abbrev s_is_front : Stmt := topS 28
theorem sc_is_front : FnScope ["front", "one", "word", "name"] ["front"] (defScope s_is_front) := ⟨rfl, rfl, rfl, by decide +kernel, rfl, by decide +kernel, by decide +kernel⟩
abbrev s_is_saying : Stmt := topS 30
theorem sc_is_saying : FnScope ["thing", "names", "word", "name"] ["thing"] (defScope s_is_saying) := ⟨rfl, rfl, rfl, by decide +kernel, rfl, by decide +kernel, by decide +kernel⟩
abbrev s_look_saying : Stmt := topS 32
theorem sc_look_saying : FnScope ["saying"] ["saying"] (defScope s_look_saying) := ⟨rfl, rfl, rfl, by decide +kernel, rfl, by decide +kernel, by decide +kernel⟩
abbrev s_within : Stmt := topS 42
theorem sc_within : FnScope ["body", "least", "text"] ["body", "least"] (defScope s_within) := ⟨rfl, rfl, rfl, by decide +kernel, rfl, by decide +kernel, by decide +kernel⟩
abbrev s_body_text : Stmt := topS 43
theorem sc_body_text : FnScope ["body", "word", "rest", "band"] ["body"] (defScope s_body_text) := ⟨rfl, rfl, rfl, by decide +kernel, rfl, by decide +kernel, by decide +kernel⟩
abbrev s_saying_text : Stmt := topS 44
theorem sc_saying_text : FnScope ["saying", "front", "word", "name"] ["saying"] (defScope s_saying_text) := ⟨rfl, rfl, rfl, by decide +kernel, rfl, by decide +kernel, by decide +kernel⟩
abbrev s_worth_in : Stmt := topS 37
theorem sc_worth_in : FnScope ["body", "values", "prime", "word", "rest", "worths", "both", "one"] ["body", "values", "prime"] (defScope s_worth_in) := ⟨rfl, rfl, rfl, by decide +kernel, rfl, by decide +kernel, by decide +kernel⟩
abbrev s_names_in : Stmt := topS 33
theorem sc_names_in : FnScope ["saying", "word", "name"] ["saying"] (defScope s_names_in) := ⟨rfl, rfl, rfl, by decide +kernel, rfl, by decide +kernel, by decide +kernel⟩
abbrev s_body_at : Stmt := topS 38
theorem sc_body_at : FnScope ["saying", "place", "prime", "name", "at"] ["saying", "place", "prime"] (defScope s_body_at) := ⟨rfl, rfl, rfl, by decide +kernel, rfl, by decide +kernel, by decide +kernel⟩
abbrev s_holds : Stmt := topS 40
theorem sc_holds : FnScope ["saying", "place", "both", "at"] ["saying", "place"] (defScope s_holds) := ⟨rfl, rfl, rfl, by decide +kernel, rfl, by decide +kernel, by decide +kernel⟩
abbrev s_truth : Stmt := topS 41
theorem sc_truth : FnScope ["saying"] ["saying"] (defScope s_truth) := ⟨rfl, rfl, rfl, by decide +kernel, rfl, by decide +kernel, by decide +kernel⟩
abbrev s_look_prime : Stmt := topS 10
theorem sc_look_prime : FnScope ["prime"] ["prime"] (defScope s_look_prime) := ⟨rfl, rfl, rfl, by decide +kernel, rfl, by decide +kernel, by decide +kernel⟩
abbrev s_are_rests : Stmt := topS 11
theorem sc_are_rests : FnScope ["row", "prime", "one"] ["row", "prime"] (defScope s_are_rests) := ⟨rfl, rfl, rfl, by decide +kernel, rfl, by decide +kernel, by decide +kernel⟩
abbrev s_look_place : Stmt := topS 13
theorem sc_look_place : FnScope ["place", "letters", "prime"] ["place", "letters", "prime"] (defScope s_look_place) := ⟨rfl, rfl, rfl, by decide +kernel, rfl, by decide +kernel, by decide +kernel⟩
abbrev s_body_worth : Stmt := topS 39
theorem sc_body_worth : FnScope ["saying", "place", "prime"] ["saying", "place", "prime"] (defScope s_body_worth) := ⟨rfl, rfl, rfl, by decide +kernel, rfl, by decide +kernel, by decide +kernel⟩
abbrev s_degrees_in : Stmt := topS 35
theorem sc_degrees_in : FnScope ["saying", "name"] ["saying"] (defScope s_degrees_in) := ⟨rfl, rfl, rfl, by decide +kernel, rfl, by decide +kernel, by decide +kernel⟩
abbrev s_saying_question : Stmt := topS 46
theorem sc_saying_question : FnScope ["saying", "claim", "prime"] ["saying", "claim", "prime"] (defScope s_saying_question) := ⟨rfl, rfl, rfl, by decide +kernel, rfl, by decide +kernel, by decide +kernel⟩
abbrev s_names_of : Stmt := topS 34
theorem sc_names_of : FnScope ["saying"] ["saying"] (defScope s_names_of) := ⟨rfl, rfl, rfl, by decide +kernel, rfl, by decide +kernel, by decide +kernel⟩
abbrev s_degrees : Stmt := topS 36
theorem sc_degrees : FnScope ["saying"] ["saying"] (defScope s_degrees) := ⟨rfl, rfl, rfl, by decide +kernel, rfl, by decide +kernel, by decide +kernel⟩
abbrev s_law_same : Stmt := topS 58
theorem sc_law_same : FnScope ["_law_found", "_law_due", "_law_k"] ["_law_found", "_law_due"] (defScope s_law_same) := ⟨rfl, rfl, rfl, by decide +kernel, rfl, by decide +kernel, by decide +kernel⟩
abbrev s_law : Stmt := topS 63
theorem sc_law : FnScope ["_law_script", "_law_draw", "_law_turn", "_law_saying_here", "_law_place", "_law_acts", "_law_found", "_law_want", "_law_act"] ["_law_script"] (defScope s_law) := ⟨rfl, rfl, rfl, by decide +kernel, rfl, by decide +kernel, by decide +kernel⟩
abbrev s_LookError_init : Stmt := inClass (topS 1) 0
theorem sc_LookError_init : FnScope ["self", "word"] ["self", "word"] (defScope s_LookError_init) := ⟨rfl, rfl, rfl, by decide +kernel, rfl, by decide +kernel, by decide +kernel⟩
abbrev s_HallError_init : Stmt := inClass (topS 2) 0
theorem sc_HallError_init : FnScope ["self", "word"] ["self", "word"] (defScope s_HallError_init) := ⟨rfl, rfl, rfl, by decide +kernel, rfl, by decide +kernel, by decide +kernel⟩
abbrev s_BadPrime_init : Stmt := inClass (topS 3) 0
theorem sc_BadPrime_init : FnScope ["self"] ["self"] (defScope s_BadPrime_init) := ⟨rfl, rfl, rfl, by decide +kernel, rfl, by decide +kernel, by decide +kernel⟩
abbrev s_BadPlace_init : Stmt := inClass (topS 4) 0
theorem sc_BadPlace_init : FnScope ["self"] ["self"] (defScope s_BadPlace_init) := ⟨rfl, rfl, rfl, by decide +kernel, rfl, by decide +kernel, by decide +kernel⟩
abbrev s_BadSaying_init : Stmt := inClass (topS 5) 0
theorem sc_BadSaying_init : FnScope ["self"] ["self"] (defScope s_BadSaying_init) := ⟨rfl, rfl, rfl, by decide +kernel, rfl, by decide +kernel, by decide +kernel⟩
abbrev s_BadQuestion_init : Stmt := inClass (topS 6) 0
theorem sc_BadQuestion_init : FnScope ["self"] ["self"] (defScope s_BadQuestion_init) := ⟨rfl, rfl, rfl, by decide +kernel, rfl, by decide +kernel, by decide +kernel⟩
structure Top (w : World) (K : PySem.W.Frag) (mg : Str → Option Value) where
  law_begin : FnE K mg "_law_begin" s_law_begin ["_law_script"]
  law_pick : FnE K mg "_law_pick" s_law_pick ["_law_draw", "_law_many"]
  law_one : FnE K mg "_law_one" s_law_one ["_law_draw", "_law_some"]
  law_body : FnE K mg "_law_body" s_law_body ["_law_draw", "_law_names", "_law_kit", "_law_room"]
  law_name_drawn : FnE K mg "_law_name_drawn" s_law_name_drawn ["_law_draw", "_law_taken"]
  law_saying : FnE K mg "_law_saying" s_law_saying ["_law_draw", "_law_most", "_law_times_of"]
  law_names_in : FnE K mg "_law_names_in" s_law_names_in ["_law_saying_here"]
  law_good_body : FnE K mg "_law_good_body" s_law_good_body ["_law_body_here", "_law_names", "_law_room"]
  law_bodies : FnE K mg "_law_bodies" s_law_bodies ["_law_body_here"]
  law_degrees : FnE K mg "_law_degrees" s_law_degrees ["_law_saying_here"]
  law_good : FnE K mg "_law_good" s_law_good ["_law_saying_here"]
  law_bent_inner : FnE K mg "_law_bent_inner" s_law_bent_inner ["_law_draw", "_law_body_here", "_law_names"]
  law_bent_saying : FnE K mg "_law_bent_saying" s_law_bent_saying ["_law_draw", "_law_saying_here"]
  law_tried : FnE K mg "_law_tried" s_law_tried ["_law_ask"]
  is_body : FnE K mg "is_body" s_is_body ["body", "names", "room"]
  inner : FnE K mg "inner" s_inner ["body"]
  parts_of : FnE K mg "parts_of" s_parts_of ["body"]
  often : FnE K mg "often" s_often ["name", "body"]
  is_small : FnE K mg "is_small" s_is_small ["body", "names"]
  is_name : FnE K mg "is_name" s_is_name ["text"]
  is_front : FnE K mg "is_front" s_is_front ["front"]
  is_saying : FnE K mg "is_saying" s_is_saying ["thing"]
  look_saying : FnE K mg "look_saying" s_look_saying ["saying"]
  within : FnE K mg "within" s_within ["body", "least"]
  body_text : FnE K mg "body_text" s_body_text ["body"]
  saying_text : FnE K mg "saying_text" s_saying_text ["saying"]
  worth_in : FnE K mg "worth_in" s_worth_in ["body", "values", "prime"]
  names_in : FnE K mg "names_in" s_names_in ["saying"]
  body_at : FnE K mg "body_at" s_body_at ["saying", "place", "prime"]
  holds : FnE K mg "holds" s_holds ["saying", "place"]
  truth : FnE K mg "truth" s_truth ["saying"]
  look_prime : FnE K mg "look_prime" s_look_prime ["prime"]
  are_rests : FnE K mg "are_rests" s_are_rests ["row", "prime"]
  look_place : FnE K mg "look_place" s_look_place ["place", "letters", "prime"]
  body_worth : FnK K mg "body_worth" s_body_worth ["saying", "place", "prime"] [.int 31] 2 ["prime"]
  degrees_in : FnE K mg "degrees_in" s_degrees_in ["saying"]
  saying_question : FnK K mg "saying_question" s_saying_question ["saying", "claim", "prime"] [.int 31] 2 ["prime"]
  names_of : FnE K mg "names_of" s_names_of ["saying"]
  degrees : FnE K mg "degrees" s_degrees ["saying"]
  law_same : FnE K mg "_law_same" s_law_same ["_law_found", "_law_due"]
  law : FnL K mg "law" s_law ["_law_script"]
  x_LookError : XbE K mg "LookError" "LookError.__init__" s_LookError_init ["self", "word"]
  x_HallError : XbE K mg "HallError" "HallError.__init__" s_HallError_init ["self", "word"]
  x_BadPrime : XcE K mg "BadPrime" "BadPrime.__init__" s_BadPrime_init ["self"]
  up_BadPrime : PySem.W.exmOne K (.ref x_BadPrime.C) (.ref x_LookError.C) = some true
  x_BadPlace : XcE K mg "BadPlace" "BadPlace.__init__" s_BadPlace_init ["self"]
  up_BadPlace : PySem.W.exmOne K (.ref x_BadPlace.C) (.ref x_LookError.C) = some true
  x_BadSaying : XcE K mg "BadSaying" "BadSaying.__init__" s_BadSaying_init ["self"]
  up_BadSaying : PySem.W.exmOne K (.ref x_BadSaying.C) (.ref x_LookError.C) = some true
  x_BadQuestion : XcE K mg "BadQuestion" "BadQuestion.__init__" s_BadQuestion_init ["self"]
  up_BadQuestion : PySem.W.exmOne K (.ref x_BadQuestion.C) (.ref x_LookError.C) = some true
  z_all : mg "all" = none
  z_len : mg "len" = none
  z_list : mg "list" = none
  z_isinstance : mg "isinstance" = none
  z_tuple : mg "tuple" = none
  z_str : mg "str" = none
  z_zip : mg "zip" = none
  z_any : mg "any" = none
  z_max : mg "max" = none
  z_range : mg "range" = none
  z_bool : mg "bool" = none
  z_int : mg "int" = none
  z_set : mg "set" = none
  a_PRIMES : Addr
  c_PRIMES : mg "PRIMES" = some (.ref a_PRIMES)
  q_PRIMES : ∀ H, SqT K H a_PRIMES [.int 3, .int 5, .int 7, .int 11, .int 13, .int 17, .int 19, .int 23, .int 29, .int 31, .int 37, .int 41, .int 43, .int 47, .int 53, .int 59, .int 61]
  c_PRIME : ∃ t, mg "PRIME" = some (.int 31 t)
  a_WORDS : Addr
  c_WORDS : mg "WORDS" = some (.ref a_WORDS)
  q_WORDS : ∀ H, SqT K H a_WORDS [.str "all", .str "some"]
  c_LETTERS : ∃ t, mg "LETTERS" = some (.str "abcdefghijklmnopqrstuvwxyz" t)
  a_BANDS : Addr
  c_BANDS : mg "BANDS" = some (.ref a_BANDS)
  q_BANDS : TopD w K a_BANDS [(.inr "or", .int 0), (.inr "and", .int 1), (.inr "not", .int 2), (.inr "name", .int 3)]
  a_JOINTS : Addr
  c_JOINTS : mg "JOINTS" = some (.ref a_JOINTS)
  q_JOINTS : TopD w K a_JOINTS [(.inr "or", .str "|"), (.inr "and", .str "&")]
  c_LONGEST : ∃ t, mg "LONGEST" = some (.int 6 t)
  c_MOST_FRONT : ∃ t, mg "MOST_FRONT" = some (.int 4 t)
  c_MOST_PARTS : ∃ t, mg "MOST_PARTS" = some (.int 24 t)
  c_MOST_DEEP : ∃ t, mg "MOST_DEEP" = some (.int 6 t)
  c_MOST_OFTEN : ∃ t, mg "MOST_OFTEN" = some (.int 4 t)


section
variable {P : Program} {w : World} {K : PySem.W.Frag} {mg : Str → Option Value} {base : Heap}
theorem ok_LookError_init (T : Top w K mg) : FnOk P w K mg base (L2.CX P w) 1 T.x_LookError.fI T.x_LookError.fd ["self", "word"] (sp_init1 K) := by
  refine T.x_LookError.F.okX sc_LookError_init (fun vs H Q E h => ?_) (fun cdv A outer s H vs Q E hr h => ?_)
  · obtain ⟨a, C, v, rfl, _⟩ := h
    rfl
  · obtain ⟨a, C, v, rfl, ha, hC, hno, q⟩ := h
    exact ⟨_, pss_one (ps_ost (pv 0) (pv 1)), v, rfl, .ref a, rfl, a, C, rfl, hC, hno, .inl ⟨ha, q⟩⟩
/-! HallError is not raised -/
theorem ok_BadPrime_init (T : Top w K mg) : FnOk P w K mg base (L2.CX P w) 2 T.x_BadPrime.fI T.x_BadPrime.fd ["self"] (sp_init0 K "BadPrime") := by
  refine T.x_BadPrime.F.okX sc_BadPrime_init (fun vs H Q E h => ?_) (fun cdv A outer s H vs Q E hr h => ?_)
  · obtain ⟨a, C, rfl, _⟩ := h
    rfl
  · obtain ⟨a, C, rfl, ha, hC, hno, q⟩ := h
    exact ⟨_, pss_one (ps_expr (pe_cfun rfl T.x_LookError.gC T.x_LookError.rd T.x_LookError.fc (ok_LookError_init T) hr T.x_LookError.F.kp T.x_LookError.b .nil passL (pa_cons (pv 0) (pa_cons pe_str pa_nil)))), .ref a, rfl, a, C, _, rfl, ha, hC, hno, q⟩
theorem er_BadPrime (T : Top w K mg) : ErC K T.x_BadPrime.C := ⟨T.x_BadPrime.oex, T.x_BadPrime.no⟩
theorem ok_BadPlace_init (T : Top w K mg) : FnOk P w K mg base (L2.CX P w) 2 T.x_BadPlace.fI T.x_BadPlace.fd ["self"] (sp_init0 K "BadPlace") := by
  refine T.x_BadPlace.F.okX sc_BadPlace_init (fun vs H Q E h => ?_) (fun cdv A outer s H vs Q E hr h => ?_)
  · obtain ⟨a, C, rfl, _⟩ := h
    rfl
  · obtain ⟨a, C, rfl, ha, hC, hno, q⟩ := h
    exact ⟨_, pss_one (ps_expr (pe_cfun rfl T.x_LookError.gC T.x_LookError.rd T.x_LookError.fc (ok_LookError_init T) hr T.x_LookError.F.kp T.x_LookError.b .nil passL (pa_cons (pv 0) (pa_cons pe_str pa_nil)))), .ref a, rfl, a, C, _, rfl, ha, hC, hno, q⟩
theorem er_BadPlace (T : Top w K mg) : ErC K T.x_BadPlace.C := ⟨T.x_BadPlace.oex, T.x_BadPlace.no⟩
theorem ok_BadSaying_init (T : Top w K mg) : FnOk P w K mg base (L2.CX P w) 2 T.x_BadSaying.fI T.x_BadSaying.fd ["self"] (sp_init0 K "BadSaying") := by
  refine T.x_BadSaying.F.okX sc_BadSaying_init (fun vs H Q E h => ?_) (fun cdv A outer s H vs Q E hr h => ?_)
  · obtain ⟨a, C, rfl, _⟩ := h
    rfl
  · obtain ⟨a, C, rfl, ha, hC, hno, q⟩ := h
    exact ⟨_, pss_one (ps_expr (pe_cfun rfl T.x_LookError.gC T.x_LookError.rd T.x_LookError.fc (ok_LookError_init T) hr T.x_LookError.F.kp T.x_LookError.b .nil passL (pa_cons (pv 0) (pa_cons pe_str pa_nil)))), .ref a, rfl, a, C, _, rfl, ha, hC, hno, q⟩
theorem er_BadSaying (T : Top w K mg) : ErC K T.x_BadSaying.C := ⟨T.x_BadSaying.oex, T.x_BadSaying.no⟩
theorem ok_BadQuestion_init (T : Top w K mg) : FnOk P w K mg base (L2.CX P w) 2 T.x_BadQuestion.fI T.x_BadQuestion.fd ["self"] (sp_init0 K "BadQuestion") := by
  refine T.x_BadQuestion.F.okX sc_BadQuestion_init (fun vs H Q E h => ?_) (fun cdv A outer s H vs Q E hr h => ?_)
  · obtain ⟨a, C, rfl, _⟩ := h
    rfl
  · obtain ⟨a, C, rfl, ha, hC, hno, q⟩ := h
    exact ⟨_, pss_one (ps_expr (pe_cfun rfl T.x_LookError.gC T.x_LookError.rd T.x_LookError.fc (ok_LookError_init T) hr T.x_LookError.F.kp T.x_LookError.b .nil passL (pa_cons (pv 0) (pa_cons pe_str pa_nil)))), .ref a, rfl, a, C, _, rfl, ha, hC, hno, q⟩
theorem er_BadQuestion (T : Top w K mg) : ErC K T.x_BadQuestion.C := ⟨T.x_BadQuestion.oex, T.x_BadQuestion.no⟩
instance kon_PRIMES (T : Top w K mg) : Kon K (.ref T.a_PRIMES) (.tup [.int 3, .int 5, .int 7, .int 11, .int 13, .int 17, .int 19, .int 23, .int 29, .int 31, .int 37, .int 41, .int 43, .int 47, .int 53, .int 59, .int 61]) := ⟨fun H => .tup (T.q_PRIMES H) (KonA.go H)⟩
instance kon_WORDS (T : Top w K mg) : Kon K (.ref T.a_WORDS) (.tup [.str "all", .str "some"]) := ⟨fun H => .tup (T.q_WORDS H) (KonA.go H)⟩
def lamQ_law : Str := (envOfC "law" (defScope s_law) 0 0 .none).qual ++ "<lambda>"
/-! ### _law_begin -/

def sp_begin (K : PySem.W.Frag) : Sp := fun vs H Q _ => ∃ (a : Addr) (ns : List Int), vs = [.ref a] ∧ SqL K H a (ns.map V.int) ∧ ∀ dr H', L2.Same H H' → Drw H' dr → Q (.ref dr) H'
def sp_begin0 (K : PySem.W.Frag) : Sp := fun vs H Q _ => ∃ (a : Addr) (ns : List Int), vs = [.ref a] ∧ SqL K H a (ns.map V.int) ∧ ∀ dr cl H' ms, H dr = none → L2.Same H H' → dr ≠ cl → H' dr = some (.lst (drawL cl 0 0 1 0)) → H' cl = some (.lst (List.map V.int ms)) → Q (.ref dr) H'
theorem cut_ints (ns : List Int) (lo hi : Option Int) : ∃ ms, cutV (ns.map V.int) lo hi = List.map V.int ms := by
  unfold cutV
  refine ⟨(ns.drop (HT.sIx ns.length 0 lo)).take (HT.sIx ns.length ns.length hi - HT.sIx ns.length 0 lo), ?_⟩
  rw [List.length_map, List.map_take, List.map_drop]
theorem ok_begin0 (T : Top w K mg) : FnOk P w K mg base (L2.CX P w) 1 T.law_begin.a T.law_begin.fd ["_law_script"] (sp_begin0 K) := by
  refine T.law_begin.F.okX sc_law_begin (fun vs H Q E h => ?_) (fun cdv A outer s H vs Q E hr h => ?_)
  · obtain ⟨a, ns, rfl, _⟩ := h
    rfl
  · obtain ⟨a, ns, rfl, hS, q⟩ := h
    refine ⟨_, (pss_one (ps_ret (pe_lst (pa_cons (pe_callTy (call_listQK K rfl) (by rfl) T.z_list (by decide +kernel) (pa_cons (pe_slice (sl_listK K rfl) (pv 0) po_none (po_some pe_int)) pa_nil)) (pa_cons pe_int (pa_cons pe_int (pa_cons pe_int (pa_cons pe_int pa_nil)))))))), ?_⟩
    obtain ⟨ms, hm⟩ := cut_ints ns none (some 63)
    refine g_start (σ := [some (.ref a)]) rfl ?_
    walk_at "py"
    refine ⟨_, rfl, 63, rfl, a, _, rfl, hS, fun c nc => ?_⟩
    rw [hm]
    have s1 : L2.Same H (upd H c (.lst (ms.map V.int))) := same_new nc
    have e1 : (upd H c (.lst (ms.map V.int))) c = some (.lst (ms.map V.int)) := upd_same
    generalize upd H c (.lst (ms.map V.int)) = H1 at s1 e1 ⊢
    walk_at "py"
    rename_i l H2 n2 s2 e2 dr H3 n3 s3 e3
    exact q dr l H3 ms (s1.free (s2.free n3)) (by walk_at "same") (ne_of_none e2 n3).symm e3 (s3 _ _ e2)
theorem ok_law_begin (T : Top w K mg) : FnOk P w K mg base (L2.CX P w) 1 T.law_begin.a T.law_begin.fd ["_law_script"] (sp_begin K) := by
  refine draw_made (ok_begin0 T) (fun vs H Q E h => ?_) (fun vs H Q E h => ?_)
  · obtain ⟨a, ns, rfl, _⟩ := h
    rfl
  · obtain ⟨a, ns, rfl, hS, q⟩ := h
    refine ⟨a, ns, rfl, hS, fun dr cl H' ms n sm hne e1 e2 => ⟨dr, cl, 0, 0, 1, 0, rfl, n, by unfold DrawR; omega, e1, q dr _ (same_mut sm n) ⟨cl, ms, upd_same, ?_⟩⟩⟩
    rw [upd_ne hne.symm]
    exact e2
theorem g_begin {H : Hp} {Q : VK} {E : XK} {a : Addr} {ns : List Int} (h : SqL K H a (ns.map V.int)) (k : ∀ dr H', L2.Same H H' → Drw H' dr → Q (.ref dr) H') : sp_begin K [.ref a] H Q E := ⟨a, ns, rfl, h, k⟩
local macro_rules | `(tactic| walk_at "call1") => `(tactic| ((with_reducible refine' g_begin ?e1 ?_); (case e1 => assumption); intro dr' H' s' d'))

def m_law_begin (T : Top w K mg) : List D → M := fun ds Q _ => ds = [.scr] ∧ Q .drw
theorem ov_law_begin (T : Top w K mg) : FnOk P w K mg base (L2.CX P w) 1 T.law_begin.a T.law_begin.fd ["_law_script"] (spV K 0 1 (m_law_begin T)) := (ok_law_begin T).imp fun vs H Q E ⟨ds, hl, r, Q0, E0, hm, hq, he⟩ => by
  obtain ⟨rfl, q⟩ := hm
  cases r with
  | cons h r =>
    cases r
    cases h with
    | scr h1 h2 => exact ⟨_, _, rfl, h1, fun dr H' s d => hq .drw _ H' q s (.drw d) True.intro⟩
theorem v_law_begin {T : Top w K mg} {Q : D → Prop} {E : Er → Prop} (q : Q .drw) : m_law_begin T [.scr] Q E := ⟨rfl, q⟩
local macro_rules | `(tactic| walk_at "vcall") => `(tactic| (with_reducible refine v_law_begin ?_))
/-! ### _law_pick -/

/-- the draw as a list -/
def sp_pick0 : Sp := fun vs H Q _ => ∃ (dr cl : Addr) (i g r c m : Int) (ns : List Int), vs = [.ref dr, .int m] ∧ dr ≠ cl ∧ H dr = some (.lst (drawL cl i g r c)) ∧ H cl = some (.lst (ns.map V.int)) ∧ DrawR i g r c ∧ 1 ≤ m ∧ m ≤ 1000000000 ∧
  ∀ i g r c x, DrawR i g r c → 0 ≤ x → x < m → Q (.int x) (upd H dr (.lst (drawL cl i g r c)))
theorem ok_pick0 (T : Top w K mg) : FnOk P w K mg base (L2.CX P w) 1 T.law_pick.a T.law_pick.fd ["_law_draw", "_law_many"] sp_pick0 := by
  refine T.law_pick.F.okX sc_law_pick (fun vs H Q E h => ?_) (fun cdv A outer s H vs Q E hr h => ?_)
  · obtain ⟨dr, cl, i, g, r, c, m, ns, rfl, _⟩ := h
    rfl
  · obtain ⟨dr, cl, i, g, r, c, m, ns, rfl, hne, hd, hc, ⟨i0, g0, r0, r1, c0⟩, m1, m2, q⟩ := h
    have hR : ∀ {i g r c : Int}, 0 ≤ i → 0 ≤ g → 0 ≤ r → r < 1000000007 → 0 ≤ c → DrawR i g r c := fun h1 h2 h3 h4 h5 => ⟨h1, h2, h3, h4, h5⟩
    refine ⟨_, (pss_cons (ps_if (PW.pt (pw_and (pt_cmpR op_lt (pe_ix (ix_QK K rfl) (pv 0) pe_int (fun _ _ => rfl)) (pv 1) (nomark _)) (pw_and1 (pt_cmpR op_lt (pe_ix (ix_QK K rfl) (pv 0) pe_int (fun _ _ => rfl)) (pe_callB (call_lenQK K rfl) (by rfl) T.z_len (by decide +kernel) (pa_cons (pe_ix (ix_QK K rfl) (pv 0) pe_int (fun _ _ => rfl)) pa_nil)) (nomark _))))) (pss_cons (ps_set (i := 2) sc_law_pick.nd rfl (Or.inl rfl) (pe_ix (ix_QK K rfl) (pe_ix (ix_QK K rfl) (pv 0) pe_int (fun _ _ => rfl)) (pe_ix (ix_QK K rfl) (pv 0) pe_int (fun _ _ => rfl)) (fun _ _ => rfl)))
    (pss_cons (ps_asg (pe_op op_add (pe_ix (ix_QK K rfl) (pv 0) pe_int (fun _ _ => rfl)) pe_int) (pg_sub (pv 0) pe_int set_list))
    (pss_cons (ps_asg pe_int (pg_sub (pv 0) pe_int set_list))
    (pss_one (ps_if (pt_cmpR op_ge (pv 2) (pe_powC (n := 1000000000000000000) (by decide) (by decide)) (nomark _)) (pss_one (ps_asg (pv 2) (pg_sub (pv 0) pe_int set_list))) (pss_one (ps_asg (pe_op op_mod (pe_op op_add (pe_ix (ix_QK K rfl) (pv 0) pe_int (fun _ _ => rfl)) (pv 2)) pe_int) (pg_sub (pv 0) pe_int set_list)))))))) pss_nil)
    (pss_cons (ps_if (pt_cmpR op_ge (pe_ix (ix_QK K rfl) (pv 0) pe_int (fun _ _ => rfl)) (pv 1) (nomark _)) (pss_cons (ps_set (i := 3) sc_law_pick.nd rfl (Or.inl rfl) (pe_op op_mod (pe_ix (ix_QK K rfl) (pv 0) pe_int (fun _ _ => rfl)) (pv 1)))
    (pss_cons (ps_asg (pe_op op_fdiv (pe_ix (ix_QK K rfl) (pv 0) pe_int (fun _ _ => rfl)) (pv 1)) (pg_sub (pv 0) pe_int set_list))
    (pss_one (ps_ret (pv 3))))) pss_nil)
    (pss_cons (ps_asg (pe_op op_add (pe_ix (ix_QK K rfl) (pv 0) pe_int (fun _ _ => rfl)) pe_int) (pg_sub (pv 0) pe_int set_list))
    (pss_cons (ps_asg (pe_op op_mod (pe_op op_add (pe_op op_add (pe_op op_pow (pe_ix (ix_QK K rfl) (pv 0) pe_int (fun _ _ => rfl)) pe_int) (pe_op op_mul pe_int (pe_ix (ix_QK K rfl) (pv 0) pe_int (fun _ _ => rfl)))) pe_int) pe_int) (pg_sub (pv 0) pe_int set_list))
    (pss_one (ps_ret (pe_op op_mod (pe_op op_fdiv (pe_ix (ix_QK K rfl) (pv 0) pe_int (fun _ _ => rfl)) pe_int) (pv 1)))))))), ?_⟩
    refine g_start (σ := [some (.ref dr), some (.int m), none, none]) rfl ?_
    have fin : ∀ {H' : Hp} {i g r c : Int} (ls : List V), H' = upd H dr (.lst ls) → ls = drawL cl i g r c → 0 ≤ i → 0 ≤ g → 0 ≤ r → r < 1000000007 → 0 ≤ c →
        ∀ x, 0 ≤ x → x < m → Q (.int x) H' := fun {H' i g r c} ls e1 e2 h1 h2 h3 h4 h5 x x0 x1 => by
      rw [e1, e2]
      exact q i g r c x ⟨h1, h2, h3, h4, h5⟩ x0 x1
    have md : ∀ z : Int, 0 ≤ z % m ∧ z % m < m := fun z => ⟨Int.emod_nonneg z (by omega), Int.emod_lt_of_pos z (by omega)⟩
    have mp : ∀ z : Int, 0 ≤ z % 1000000007 ∧ z % 1000000007 < 1000000007 := fun z => ⟨Int.emod_nonneg z (by omega), Int.emod_lt_of_pos z (by omega)⟩
    have dv : ∀ z : Int, 0 ≤ z → 0 ≤ z / m := fun z hz => Int.ediv_nonneg hz (by omega)
    walk_at "py"
    · have e2 := ‹i < ((ns.map V.int).length : Int)›
      have hi : i.toNat < ns.length := by
        rw [List.length_map] at e2
        omega
      have ha : atI (ns.map V.int) i = some (.int ns[i.toNat]) := by
        have h := atI_nat (xs := ns.map V.int) (j := i.toNat) (v := .int ns[i.toNat]) (by rw [List.getElem?_map, List.getElem?_eq_getElem hi]; rfl)
        rw [Int.toNat_of_nonneg i0] at h
        exact h
      refine g_ixQ (sqL hc) ha ?_
      generalize ns[i.toNat] = z
      walk_at "py"
      all_goals first
        | exact fin (i := i + 1) (g := z / m) (r := r) (c := c) _ (by simp only [upd_upd]; rfl) rfl (by omega) (dv _ (Int.le_trans (by decide) (show (1000000000000000000 : Int) ≤ z by assumption))) r0 r1 c0 _ (md _).1 (md _).2
        | exact fin (i := i + 1) (c := c + 1) _ (by simp only [upd_upd]; rfl) rfl (by omega) (by first | omega | exact Int.le_trans (by decide) (show (1000000000000000000 : Int) ≤ z by assumption)) (mp _).1 (mp _).2 (by omega) _ (md _).1 (md _).2
    all_goals first | exact fin _ rfl rfl i0 (dv g g0) r0 r1 c0 _ (md g).1 (md g).2 | exact fin _ upd_upd rfl i0 g0 (mp _).1 (mp _).2 (by omega) _ (md _).1 (md _).2
def sp_pick : Sp := fun vs H Q _ => ∃ (dr : Addr) (m : Int), vs = [.ref dr, .int m] ∧ Drw H dr ∧ 1 ≤ m ∧ m ≤ 1000000000 ∧ ∀ x H', 0 ≤ x → x < m → L2.Same H H' → Q (.int x) H'
theorem ok_law_pick (T : Top w K mg) : FnOk P w K mg base (L2.CX P w) 1 T.law_pick.a T.law_pick.fd ["_law_draw", "_law_many"] sp_pick := by
  refine draw_cast (ok_pick0 T) (fun vs H Q E h => ?_) (fun _ _ _ _ _ _ _ h => cx_false h) (fun vs H Q E h => ?_)
  · obtain ⟨dr, m, rfl, _⟩ := h
    rfl
  · obtain ⟨dr, m, rfl, ⟨cl, ns, hd, hc⟩, m1, m2, q⟩ := h
    have hne : dr ≠ cl := ne_of hd hc (fun z => by unfold DrawO at z; cases z)
    refine ⟨dr, cl, hd, fun i g r c hR => ⟨dr, cl, i, g, r, c, m, ns, rfl, hne, upd_same, by rw [upd_ne hne.symm]; exact hc, hR, m1, m2, fun i g r c x hR x0 x1 => ⟨i, g, r, c, hR, upd_same, q x _ x0 x1 fun b o e => ?_⟩⟩⟩
    by_cases hb : b = dr
    · subst hb
      rw [hd] at e
      cases e
      exact upd_same
    · rw [upd_ne hb, upd_ne hb, upd_ne hb]
      exact e
theorem g_pick {H : Hp} {Q : VK} {E : XK} {dr : Addr} {m : Int} (h : Drw H dr) (m1 : 1 ≤ m ∧ m ≤ 1000000000) (k : ∀ x H', 0 ≤ x → x < m → L2.Same H H' → Q (.int x) H') : sp_pick [.ref dr, .int m] H Q E := ⟨dr, m, rfl, h, m1.1, m1.2, k⟩
local macro_rules | `(tactic| walk_at "call1") => `(tactic| ((with_reducible refine' g_pick ?e1 ?e2 ?_); (case e1 => walk_at "drw"); (case e2 => walk_at "side"); intro r' H' b' c' s'))

def m_law_pick (T : Top w K mg) : List D → M := fun ds Q _ => ∃ m : Int, ds = [.drw, .int m] ∧ (1 ≤ m ∧ m ≤ 1000000000) ∧ ∀ x : Int, 0 ≤ x → x < m → Q (.int x)
theorem ov_law_pick (T : Top w K mg) : FnOk P w K mg base (L2.CX P w) 1 T.law_pick.a T.law_pick.fd ["_law_draw", "_law_many"] (spV K 0 2 (m_law_pick T)) := (ok_law_pick T).imp fun vs H Q E ⟨ds, hl, r, Q0, E0, hm, hq, he⟩ => by
  obtain ⟨m, rfl, hm, q⟩ := hm
  cases r with
  | cons h r =>
    cases r with
    | cons h2 r =>
      cases r
      cases h2
      cases h with
      | drw h => exact ⟨_, m, rfl, h, hm.1, hm.2, fun x H' x0 x1 s => hq (.int x) _ H' (q x x0 x1) s (.int x) True.intro⟩
theorem v_law_pick {T : Top w K mg} {m : Int} {Q : D → Prop} {E : Er → Prop} (h : 1 ≤ m ∧ m ≤ 1000000000) (q : ∀ x : Int, 0 ≤ x → x < m → Q (.int x)) : m_law_pick T [.drw, .int m] Q E := ⟨m, rfl, h, q⟩
local macro_rules | `(tactic| walk_at "vcall") => `(tactic| ((with_reducible refine' v_law_pick ?e1 ?_); (case e1 => walk_at "vside"); intro r' b' c'))
/-! ### _law_one -/
def m_law_one (T : Top w K mg) : List D → M := fun ds Q _ => ∃ es, (ds = [.drw, .lst es] ∨ ds = [.drw, .tup es]) ∧ (1 ≤ es.length ∧ es.length ≤ 1000000000) ∧ ∀ d ∈ es, Q d
theorem ov_law_one (T : Top w K mg) : FnOk P w K mg base (L2.CX P w) 2 T.law_one.a T.law_one.fd ["_law_draw", "_law_some"] (spV K 0 2 (m_law_one T)) := by
  refine T.law_one.F.okX sc_law_one (spV_len rfl) (fun cdv A outer s H vs Q E hr h => ?_)
  refine ⟨_, (pss_one (ps_ret (pe_ix (ix_QK K rfl) (pv 1) (pe_call (ov_law_pick T) (hr.mono (by decide)) rfl T.law_pick.g T.law_pick.F.kp T.law_pick.b .nil (passes_call (takes_of rfl rfl rfl rfl) (fun _ _ _ _ h => h)) (pa_cons (pv 0) (pa_cons (pe_callB (call_lenQK K rfl) (by rfl) T.z_len (by decide +kernel) (pa_cons (pv 1) pa_nil)) pa_nil))) (fun _ _ => rfl)))), ?_⟩
  refine fnV rfl h (fun ds Q0 E0 hl hm => ?_)
  obtain ⟨es, he | he, hn, q⟩ := hm
  all_goals
    subst he
    show vRet _ ⟨_, _, _, _, _⟩ [.fz .drw, _]
    walk_at "v"
    rename_i x hx hx2
    obtain ⟨i, v, h1, h2⟩ := atD_ok hx hx2
    exact ⟨v, h2, q v (List.mem_of_getElem? h1)⟩
theorem v_law_one {T : Top w K mg} {es : List D} {Q : D → Prop} {E : Er → Prop} (h : 1 ≤ es.length ∧ es.length ≤ 1000000000) (q : ∀ d ∈ es, Q d) : m_law_one T [.drw, .lst es] Q E := ⟨es, .inl rfl, h, q⟩
theorem v_law_oneI {T : Top w K mg} {ns : List Int} {Q : D → Prop} {E : Er → Prop} (h : 1 ≤ ns.length ∧ ns.length ≤ 1000000000) (q : ∀ n ∈ ns, Q (.int n)) : m_law_one T [.drw, .lst (List.map D.int ns)] Q E := v_law_one (by rw [List.length_map]; exact h) fun d hd => by
  obtain ⟨n, hn, rfl⟩ := List.mem_map.mp hd
  exact q n hn
/-! ### _law_body -/

theorem leaf_lc (T : Top w K mg) {H : Hp} {dr nm kt ct : Addr} {names : List Str} {k0 k1 t : Int} {c : Str → Nat} (hK : KitS H dr nm kt ct names k0 k1 t c) (hlt : sumC names c < t * names.length) (hnl : names.length ≤ 100) {n1 r : V} {E : XK} {QQ : V → Hp → Prop} (k : ∀ x H2, x ∈ names → (c x : Int) < t → L2.Same H H2 → QQ (.str x) H2) :
    tLc (iSeq K (tVar 1)) (gName 6) (tHidT (tTest (tOp (rI0 fun i j => V.bl (decide (i < j))) (tDGet (tOp (rIxQ K) (tVar 2) (tC (V.int 2))) (tVar 6)) (tOp (rIxQ K) (tVar 2) (tC (V.int 3)))))) (tHid (tVar 6)) [6] [some (.ref dr), some (.ref nm), some (.ref kt), some n1, some r, none, none] H
      (fun x H1 => spV K 0 2 (m_law_one T) [V.ref dr, x] H1 QQ E) := by
  refine CV.go (K := K) (O := OSame) (E := E) (n := 0) H True.intro _ H _ ⟨_, hK.rel, L2.Same.refl H, fun d => d = .lst ((names.filter fun x => decide ((c x : Int) < t)).map D.str), fun _ => False, ?_, fun d v H1 hd s1 rv _ => ?_, fun _ z => z.elim⟩
  · walk_at "v"
    refine filV_S (fun x => decide ((c x : Int) < t)) (fun x hx Q' hQ => ?_) (fun x hx hp Q' hQ => ?_) rfl
    · walk_at "v"
      exact ⟨_, rfl, ⟨_, _, rfl, lookD_names hx, ⟨_, rfl, hQ⟩⟩⟩
    · walk_at "v"
      exact hQ
  · subst hd
    obtain ⟨x, hx, hxt⟩ := sumC_some hlt
    have hm : x ∈ names.filter fun x => decide ((c x : Int) < t) := List.mem_filter.mpr ⟨hx, by simpa using hxt⟩
    refine ⟨[.drw, _], rfl, .cons (.drw (hK.dr.mono s1)) (.cons rv .nil), fun d => ∃ y, d = .str y ∧ y ∈ names ∧ (c y : Int) < t, fun _ => False, ⟨_, .inl rfl, ⟨?_, ?_⟩, fun d hd => ?_⟩, fun d v2 H2 ⟨y, hy1, hy2, hy3⟩ s2 r2 _ => ?_, fun _ z => z.elim⟩
    · rw [List.length_map]
      exact List.length_pos_of_mem hm
    · rw [List.length_map]
      have := List.length_filter_le (fun x => decide ((c x : Int) < t)) names
      omega
    · obtain ⟨y, hy, rfl⟩ := List.mem_map.mp hd
      have := List.mem_filter.mp hy
      exact ⟨y, rfl, this.1, by simpa using this.2⟩
    · subst hy1
      cases r2
      exact k y H2 hy2 hy3 (L2.Same.trans s1 s2)
theorem leaf_at (T : Top w K mg) {H : Hp} {dr nm kt ct : Addr} {names : List Str} {k0 k1 t : Int} {c : Str → Nat} (hK : KitS H dr nm kt ct names k0 k1 t c) (hlt : sumC names c < t * names.length) (hnl : names.length ≤ 100) {n1 r : V} {E : XK} {QQ : V → Hp → Prop} (k : ∀ x H2, x ∈ names → (c x : Int) < t → L2.Same H H2 → QQ (.str x) H2) :
    rSeq K (.ref nm) H fun J H1 => LC J (gName 6) (tHidT (tTest (tOp (rI0 fun i j => V.bl (decide (i < j))) (tDGet (tOp (rIxQ K) (tVar 2) (tC (V.int 2))) (tVar 6)) (tOp (rIxQ K) (tVar 2) (tC (V.int 3)))))) (tHid (tVar 6)) [6] [some (.ref dr), some (.ref nm), some (.ref kt), some n1, some r, none, none]
      (fun x H1 => tNil [some (.ref dr), some (.ref nm), some (.ref kt), some n1, some r, none, none] H1 fun xs H2 => spV K 0 2 (m_law_one T) (V.ref dr :: x :: xs) H2 QQ E) H1 := by
  obtain ⟨v, e, h⟩ := leaf_lc T hK hlt hnl (n1 := n1) (r := r) (E := E) k
  cases e
  exact h
def sp_body (K : PySem.W.Frag) (n : Nat) : Sp := fun vs H Q _ => ∃ (dr nm kt ct : Addr) (names : List Str) (k0 k1 t : Int) (c : Str → Nat), vs = [.ref dr, .ref nm, .ref kt, .int (n : Int)] ∧ KitS H dr nm kt ct names k0 k1 t c ∧ names.Nodup ∧ names.length ≤ 100 ∧ 1 ≤ n ∧ 0 ≤ k0 ∧ 0 ≤ k1 ∧ k1 + sumC names c + 1 ≤ t * names.length ∧ (∀ x ∈ names, (c x : Int) ≤ t) ∧
  ∀ b k0' k1' c' v H', BodyR n names t k0 k1 c b k0' k1' c' → Out kt ct H H' → H' kt = some (.lst (kitL k0' k1' ct t)) → H' ct = some (.dK (cntK names c')) → Rp K H' v (bD b) → Q v H'
theorem ok_body_n (T : Top w K mg) : ∀ n : Nat, FnOk P w K mg base (L2.CX P w) (n + 3) T.law_body.a T.law_body.fd ["_law_draw", "_law_names", "_law_kit", "_law_room"] (sp_body K n)
  | 0 => by
    refine T.law_body.F.okX sc_law_body (fun vs H Q E h => ?_) (fun cdv A outer s H vs Q E hr h => ?_)
    · obtain ⟨dr, nm, kt, ct, names, k0, k1, t, c, rfl, _⟩ := h
      rfl
    · obtain ⟨dr, nm, kt, ct, names, k0, k1, t, c, rfl, _, _, _, z, _⟩ := h
      omega
  | n + 1 => by
    have ih := ok_body_n T n
    refine T.law_body.F.okX sc_law_body (fun vs H Q E h => ?_) (fun cdv A outer s H vs Q E hr h => ?_)
    · obtain ⟨dr, nm, kt, ct, names, k0, k1, t, c, rfl, _⟩ := h
      rfl
    · obtain ⟨dr, nm, kt, ct, names, k0, k1, t, c, rfl, hK, hnd, hnl, h1, h0, hk1, hlv, hle, q⟩ := h
      refine ⟨_, (pss_cons (ps_set (i := 4) sc_law_body.nd rfl (Or.inl rfl) (pe_call (ok_law_pick T) (hr.mono (by omega)) rfl T.law_pick.g T.law_pick.F.kp T.law_pick.b .nil (passes_call (takes_of rfl rfl rfl rfl) (fun _ _ _ _ h => h)) (pa_cons (pv 0) (pa_cons pe_int pa_nil))))
    (pss_cons (ps_if (PW.pt (pw_and (pt_cmpR op_gt (pv 3) pe_int (nomark _)) (pw_and (pt_cmpR op_eq (pv 4) pe_int (nomark _)) (pw_and1 (pt_cmpR op_gt (pe_ix (ix_QK K rfl) (pv 2) pe_int (fun _ _ => rfl)) pe_int (nomark _)))))) (pss_cons (ps_asg (pe_op op_sub (pe_ix (ix_QK K rfl) (pv 2) pe_int (fun _ _ => rfl)) pe_int) (pg_sub (pv 2) pe_int set_list))
    (pss_one (ps_ret (pe_tup (pa_cons pe_str (pa_cons (pe_call ih hr rfl T.law_body.g T.law_body.F.kp T.law_body.b .nil (passes_call (takes_of rfl rfl rfl rfl) (fun _ _ _ _ h => h)) (pa_cons (pv 0) (pa_cons (pv 1) (pa_cons (pv 2) (pa_cons (pe_op op_sub (pv 3) pe_int) pa_nil))))) pa_nil)))))) pss_nil)
    (pss_cons (ps_if (PW.pt (pw_and (pt_cmpR op_gt (pv 3) pe_int (nomark _)) (pw_and (pt_cmpR op_gt (pv 4) pe_int (nomark _)) (pw_and (pt_cmpR op_gt (pe_ix (ix_QK K rfl) (pv 2) pe_int (fun _ _ => rfl)) pe_int (nomark _)) (pw_and1 (pt_cmpR op_gt (pe_ix (ix_QK K rfl) (pv 2) pe_int (fun _ _ => rfl)) pe_int (nomark _))))))) (pss_cons (ps_asg (pe_op op_sub (pe_ix (ix_QK K rfl) (pv 2) pe_int (fun _ _ => rfl)) pe_int) (pg_sub (pv 2) pe_int set_list))
    (pss_cons (ps_asg (pe_op op_sub (pe_ix (ix_QK K rfl) (pv 2) pe_int (fun _ _ => rfl)) pe_int) (pg_sub (pv 2) pe_int set_list))
    (pss_cons (ps_set (i := 5) sc_law_body.nd rfl (Or.inl rfl) (pe_call ih hr rfl T.law_body.g T.law_body.F.kp T.law_body.b .nil (passes_call (takes_of rfl rfl rfl rfl) (fun _ _ _ _ h => h)) (pa_cons (pv 0) (pa_cons (pv 1) (pa_cons (pv 2) (pa_cons (pe_op op_sub (pv 3) pe_int) pa_nil))))))
    (pss_one (ps_ret (pe_tup (pa_cons (pe_ix (ix_QK K rfl) (pe_lst (pa_cons pe_str (pa_cons pe_str pa_nil))) (pe_call (ok_law_pick T) (hr.mono (by omega)) rfl T.law_pick.g T.law_pick.F.kp T.law_pick.b .nil (passes_call (takes_of rfl rfl rfl rfl) (fun _ _ _ _ h => h)) (pa_cons (pv 0) (pa_cons pe_int pa_nil))) (fun _ _ => rfl)) (pa_cons (pv 5) (pa_cons (pe_call ih hr rfl T.law_body.g T.law_body.F.kp T.law_body.b .nil (passes_call (takes_of rfl rfl rfl rfl) (fun _ _ _ _ h => h)) (pa_cons (pv 0) (pa_cons (pv 1) (pa_cons (pv 2) (pa_cons (pe_op op_sub (pv 3) pe_int) pa_nil))))) pa_nil))))))))) pss_nil)
    (pss_cons (ps_set (i := 6) sc_law_body.nd rfl (Or.inl rfl) (pe_call (ov_law_one T) (hr.mono (by omega)) rfl T.law_one.g T.law_one.F.kp T.law_one.b .nil (passes_call (takes_of rfl rfl rfl rfl) (fun _ _ _ _ h => h)) (pa_cons (pv 0) (pa_cons (pe_lcV (own := [("_law_name", 6)]) [6] rfl sc_law_body.nd (pi_seqK K rfl (pv 1)) (blkOk_by (own := [("_law_name", 6)]) (N := ["_law_draw", "_law_names", "_law_kit", "_law_room", "_law_fork", "_law_first", "_law_name"]) (sc := defScope s_law_body) (by decide +kernel)) (fun _ _ _ _ _ => (pg_name (i := 6) sc_law_body.nd rfl (by first | exact Or.inl rfl | exact Or.inr rfl))) (fun _ _ _ _ _ => (pts_one (pt_hid (pt_cmpR op_lt (pe_dget (room1 hr) (pe_ix (ix_QK K rfl) (pv 2) pe_int (fun _ _ => rfl)) (pv 6) (fun _ _ => rfl)) (pe_ix (ix_QK K rfl) (pv 2) pe_int (fun _ _ => rfl)) (nomark _))))) (fun _ _ _ _ _ => (pe_hid (pv 6)))) pa_nil))))
    (pss_cons (ps_dput (room1 hr) (pe_ix (ix_QK K rfl) (pv 2) pe_int (fun _ _ => rfl)) (pv 6) (pe_op op_add (pe_dget (room1 hr) (pe_ix (ix_QK K rfl) (pv 2) pe_int (fun _ _ => rfl)) (pv 6) (fun _ _ => rfl)) pe_int) rfl)
    (pss_one (ps_ret (pe_tup (pa_cons pe_str (pa_cons (pv 6) pa_nil)))))))))), ?_⟩
      refine g_start (σ := [some (.ref dr), some (.ref nm), some (.ref kt), some (.int ((n + 1 : Nat) : Int)), none, none, none]) rfl ?_
      obtain ⟨hD, hN, hKt, hCt⟩ := id hK
      unfold kitL at hKt
      have leafE : ∀ x H2 H3 p, x ∈ names → (c x : Int) < t → L2.Same H H2 → L2.Same (upd H2 ct (.dK (putK (cntK names c) (.inr x) (.int ((c x : Int) + 1))))) H3 → H3 p = some (.tup [.str "name", .str x]) → Q (.ref p) H3 := fun x H2 H3 p hx hxt s2 s3 e3 => by
        have hK2 := hK.same s2
        have ec : (V.int ((c x : Int) + 1)) = V.int (((c x + 1 : Nat)) : Int) := by simp
        rw [ec, cntK_put hx] at s3
        have hK3 := (hK2.setC (c' := fun y => if y = x then c x + 1 else c y)).same s3
        refine q (.nm x) k0 k1 (fun y => if y = x then c x + 1 else c y) _ _ ⟨?_, ?_, fun y => ?_, fun y hy => ?_, ?_, h0, hk1, fun y hy => ?_⟩ ((Out.of s2).trans (Out.dc.trans (Out.of s3))) hK3.kt hK3.ct (.tup (.inl (.inl e3)) (.cons (.str _) (.cons (.str _) .nil)))
        · simp [Bd.parts]; omega
        · simp [Bd.deep]
        · simp only [Bd.often]
          by_cases e : y = x
          · subst e; simp
          · have e2 : ¬ x = y := fun z => e z.symm
            simp [e, e2]
        · simp [Bd.names] at hy; rw [hy]; exact hx
        · rw [sumC_put hnd hx]; omega
        · by_cases e : y = x
          · subst e; simp; omega
          · simp [e]; exact hle y hy
      walk_at "py"
      any_goals
        rename_i H1 _ _ s1 _
        refine leaf_at T (hK.same (by assumption)) (by omega) hnl (fun x H2 hx hxt s2 => ?_)
        have hK2 := (hK.same (by assumption)).same s2
        have hKt2 := hK2.kt
        unfold kitL at hKt2
        walk_at "py"
        refine g_dgS hK2.ct (cntK_val hx) ?_
        walk_at "py"
        refine g_dpS hK2.ct (by simp [cntK]; omega) ?_
        walk_at "py"
        refine leafE x H2 _ _ hx hxt (by walk_at "same") (by assumption) (by assumption)
      · have s1 := ‹L2.Same H _›
        refine ⟨dr, nm, kt, ct, names, k0 - 1, k1, t, c, by simp, (hK.same s1).setK, hnd, hnl, by omega, by omega, hk1, hlv, hle, fun b k0' k1' c' v H2 hB o2 e1 e2 rv => ?_⟩
        walk_at "py"
        rename_i p H3 n3 s3 e3
        have hK1 := hK.same s1
        refine q (.nt b) k0' k1' c' _ _ ⟨?_, ?_, hB.oft, hB.nms, hB.lv, hB.p0, hB.p1, hB.le⟩ ((Out.of s1).trans (Out.kk.trans (o2.trans (Out.of s3)))) (s3 _ _ e1) (s3 _ _ e2) (.tup (.inl (.inl e3)) (.cons (.str _) (.cons (rv.mono (LamX.ExtN.of s3)) .nil)))
        · have := hB.parts
          simp only [Bd.parts]; omega
        · have := hB.deep
          simp only [Bd.deep]; omega
      · have s1 := ‹L2.Same H _›
        refine ⟨dr, nm, kt, ct, names, k0 - 2, k1 - 1, t, c, by simp, by rw [upd_upd]; exact (hK.same s1).setK, hnd, hnl, by omega, by omega, by omega, by omega, hle, fun b k0' k1' c' v H2 hB o2 e1 e2 rv => ?_⟩
        rw [upd_upd] at o2
        have hK2 := ((hK.same s1).setK (k0' := k0 - 2) (k1' := k1 - 1)).out o2 e1 e2
        have hD2 := hK2.dr
        walk_at "py"
        rename_i p3 H3 n3 s3 e3 r2 H4 hr0 hr1 s4
        have s5 := L2.Same.trans s3 s4
        have e4 := s4 _ _ e3
        have hK4 := hK2.same s5
        have lv := hB.lv
        have lp := hB.parts
        have ld := hB.deep
        have bin : ∀ (mk : Bd → Bd → Bd) (wd : Str) (x : V) (b2 : Bd) k0'' k1'' c'' v2 H5 p6 H6, (∀ b c, mk b c = .an b c ∨ mk b c = .orr b c) → (∀ b c, bD (mk b c) = .tup [.str wd, bD b, bD c]) → BodyR n names t k0' k1' c' b2 k0'' k1'' c'' → Out kt ct H4 H5 → H5 kt = some (.lst (kitL k0'' k1'' ct t)) → H5 ct = some (.dK (cntK names c'')) → Rp K H5 v2 (bD b2) → L2.Same H5 H6 → H6 p6 = some (.tup [.str wd, v, v2]) → Q (.ref p6) H6 := fun mk wd x b2 k0'' k1'' c'' v2 H5 p6 H6 hmk hD hB2 o5 e51 e52 rv2 s6 e6 => by
          have lv2 := hB2.lv
          have lp2 := hB2.parts
          have ld2 := hB2.deep
          have r1 : Rp K H6 v (bD b) := (hK4.flat o5 (rv.mono (LamX.ExtN.of s5)) (flat_bD b)).mono (LamX.ExtN.of s6)
          refine q (mk b b2) k0'' k1'' c'' _ _ ⟨?_, ?_, fun y => ?_, fun y hy => ?_, by omega, hB2.p0, hB2.p1, hB2.le⟩ ((Out.of s1).trans (Out.kk.trans (o2.trans ((Out.of s5).trans (o5.trans (Out.of s6)))))) (s6 _ _ e51) (s6 _ _ e52) ?_
          · rcases hmk b b2 with e | e <;> rw [e] <;> simp only [Bd.parts] <;> omega
          · rcases hmk b b2 with e | e <;> rw [e] <;> simp only [Bd.deep] <;> omega
          · rw [hB2.oft, hB.oft]
            rcases hmk b b2 with e | e <;> rw [e] <;> simp only [Bd.often] <;> omega
          · have : y ∈ b.names ++ b2.names := by
              rcases hmk b b2 with e | e <;> rw [e] at hy <;> exact hy
            rcases List.mem_append.mp this with h | h
            · exact hB.nms y h
            · exact hB2.nms y h
          · rw [hD]
            exact .tup (.inl (.inl e6)) (.cons (.str _) (.cons r1 (.cons (rv2.mono (LamX.ExtN.of s6)) .nil)))
        obtain rfl | rfl : r2 = 0 ∨ r2 = 1 := by omega
        · walk_at "py"
          refine ⟨dr, nm, kt, ct, names, k0', k1', t, c', by simp, hK4, hnd, hnl, by omega, hB.p0, hB.p1, by omega, hB.le, fun b2 k0'' k1'' c'' v2 H5 hB2 o5 e51 e52 rv2 => ?_⟩
          walk_at "py"
          rename_i p6 H6 n6 s6 e6
          exact bin .an "and" (.ref p3) b2 k0'' k1'' c'' v2 H5 p6 H6 (fun _ _ => .inl rfl) (fun _ _ => rfl) hB2 o5 e51 e52 rv2 s6 e6
        · walk_at "py"
          refine ⟨dr, nm, kt, ct, names, k0', k1', t, c', by simp, hK4, hnd, hnl, by omega, hB.p0, hB.p1, by omega, hB.le, fun b2 k0'' k1'' c'' v2 H5 hB2 o5 e51 e52 rv2 => ?_⟩
          walk_at "py"
          rename_i p6 H6 n6 s6 e6
          exact bin .orr "or" (.ref p3) b2 k0'' k1'' c'' v2 H5 p6 H6 (fun _ _ => .inr rfl) (fun _ _ => rfl) hB2 o5 e51 e52 rv2 s6 e6

/-! ### _law_name_drawn -/
def m_law_name_drawn (T : Top w K mg) : List D → M := fun ds Q _ => ∃ taken : List Str, ds = [.drw, .lst (taken.map D.str)] ∧ taken.length ≤ 10 ∧ ∀ x, NmOk x → x ∉ taken → Q (.str x)
theorem ov_law_name_drawn (T : Top w K mg) : FnOk P w K mg base (L2.CX P w) 3 T.law_name_drawn.a T.law_name_drawn.fd ["_law_draw", "_law_taken"] (spV K 0 2 (m_law_name_drawn T)) := by
  refine T.law_name_drawn.F.okX sc_law_name_drawn (spV_len rfl) (fun cdv A outer s H vs Q E hr h => ?_)
  refine ⟨_, (pss_cons (ps_set (i := 2) sc_law_name_drawn.nd rfl (Or.inr rfl) pe_str)
    (pss_cons (ps_set (i := 3) sc_law_name_drawn.nd rfl (Or.inl rfl) (pe_call (ov_law_one T) (hr.mono (by decide)) rfl T.law_one.g T.law_one.F.kp T.law_one.b .nil (passes_call (takes_of rfl rfl rfl rfl) (fun _ _ _ _ h => h)) (pa_cons (pv 0) (pa_cons (pe_lst (pa_cons pe_int (pa_cons pe_int (pa_cons pe_int (pa_cons pe_int (pa_cons pe_int (pa_cons (pe_op (op_addX K rfl) pe_int (pe_call (ov_law_pick T) (hr.mono (by decide)) rfl T.law_pick.g T.law_pick.F.kp T.law_pick.b .nil (passes_call (takes_of rfl rfl rfl rfl) (fun _ _ _ _ h => h)) (pa_cons (pv 0) (pa_cons pe_int pa_nil)))) pa_nil))))))) pa_nil))))
    (pss_cons (ps_set (i := 4) sc_law_name_drawn.nd rfl (Or.inl rfl) (pe_joinT K rfl pe_str (pe_lcV (own := [("_law_k", 5)]) [5] rfl sc_law_name_drawn.nd (pi_range1 (by rfl) T.z_range (pa_cons (pv 3) pa_nil)) (blkOk_by (own := [("_law_k", 5)]) (N := ["_law_draw", "_law_taken", "_law_letters", "_law_size", "_law_word", "_law_k", "_law_sign"]) (sc := defScope s_law_name_drawn) (by decide +kernel)) (fun _ _ _ _ _ => (pg_name (i := 5) sc_law_name_drawn.nd rfl (by first | exact Or.inl rfl | exact Or.inr rfl))) (fun _ _ _ _ _ => pts_nil) (fun _ _ _ _ _ => (pe_hid (pe_ix ix_str (pv 2) (pe_call (ov_law_pick T) (hr.mono (by decide)) rfl T.law_pick.g T.law_pick.F.kp T.law_pick.b .nil passL (pa_cons (pv 0) (pa_cons pe_int pa_nil))) (fun _ _ => rfl)))))))
    (pss_cons (ps_if (pt_cmpR (op_eqX K rfl hr) (pe_call (ov_law_pick T) (hr.mono (by decide)) rfl T.law_pick.g T.law_pick.F.kp T.law_pick.b .nil (passes_call (takes_of rfl rfl rfl rfl) (fun _ _ _ _ h => h)) (pa_cons (pv 0) (pa_cons pe_int pa_nil))) pe_int (nomark _)) (pss_one (ps_set (i := 4) sc_law_name_drawn.nd rfl (Or.inl rfl) (pe_op (op_addX K rfl) (pe_slice sl_str pe_str po_none (po_some (pe_op op_sub (pv 3) pe_int))) (pe_ix ix_str (pv 2) (pe_call (ov_law_pick T) (hr.mono (by decide)) rfl T.law_pick.g T.law_pick.F.kp T.law_pick.b .nil (passes_call (takes_of rfl rfl rfl rfl) (fun _ _ _ _ h => h)) (pa_cons (pv 0) (pa_cons pe_int pa_nil))) (fun _ _ => rfl))))) pss_nil)
    (pss_cons (ps_if (PW.pt (pw_and (pt_cmpR (op_notInQK K rfl) (pv 4) (pv 1) (by rfl)) (pw_and1 (pt_cmpR (op_notInQK K rfl) (pv 4) (pe_lst (pa_cons pe_str (pa_cons pe_str pa_nil))) (by rfl))))) (pss_one (ps_ret (pv 4))) pss_nil)
    (pss_one (ps_ret (pe_ix (ix_QK K rfl) (pe_lcV (own := [("_law_sign", 6)]) [6] rfl sc_law_name_drawn.nd (pi_str (pv 2)) (blkOk_by (own := [("_law_sign", 6)]) (N := ["_law_draw", "_law_taken", "_law_letters", "_law_size", "_law_word", "_law_k", "_law_sign"]) (sc := defScope s_law_name_drawn) (by decide +kernel)) (fun _ _ _ _ _ => (pg_name (i := 6) sc_law_name_drawn.nd rfl (by first | exact Or.inl rfl | exact Or.inr rfl))) (fun _ _ _ _ _ => (pts_one (pt_hid (pt_cmpR (op_notInQK K rfl) (pe_op op_mulT (pv 6) pe_int) (pv 1) (by rfl))))) (fun _ _ _ _ _ => (pe_hid (pe_op op_mulT (pv 6) pe_int)))) pe_int (fun _ _ => rfl))))))))), ?_⟩
  refine fnV rfl h (fun ds Q0 E0 hl hm => ?_)
  obtain ⟨taken, rfl, ht, q⟩ := hm
  show vSeq _ _ ⟨_, _, _, _, _⟩ [.fz .drw, .fz (.lst (taken.map D.str)), .no, .no, .no, .no, .no]
  walk_at "v"
  refine v_law_oneI (ns := [1, 1, 2, 3, 6, 1 + _]) ⟨Nat.le_of_ble_eq_true rfl, Nat.le_of_ble_eq_true rfl⟩ fun sz hsz => ?_
  have hs : 1 ≤ sz ∧ sz ≤ 6 := by
    simp only [List.mem_cons, List.not_mem_nil, or_false] at hsz
    omega
  clear hsz
  walk_at "v"
  refine mapV_rel (fun _ y => ∃ c : Nat, y = .str (sgn c) ∧ 97 ≤ c ∧ c ≤ 122) (fun x hx Q' hQ => ?_) (fun ys hl hR => ?_)
  · obtain ⟨i, _, rfl⟩ := List.mem_map.mp hx
    walk_at "v"
    rename_i r r0 r1
    exact ixS_ok (at_LETS r0 r1) (by decide +kernel) (hQ _ ⟨_, rfl, by omega, by omega⟩)
  rw [rngD_len] at hl
  have hA : ∀ y ∈ ys, ∃ c : Nat, y = .str (sgn c) ∧ 97 ≤ c ∧ c ≤ 122 := fun y hy => by
    obtain ⟨i, hi⟩ := List.getElem?_of_mem hy
    have hi' : i < (rngD 0 sz.toNat).length := by
      rw [rngD_len, ← hl]
      exact (List.getElem?_eq_some_iff.mp hi).1
    exact hR i _ y (List.getElem?_eq_getElem hi') hi
  obtain ⟨cs, rfl, hcs⟩ : ∃ cs : List Nat, ys = (cs.map sgn).map D.str ∧ ∀ c ∈ cs, 97 ≤ c ∧ c ≤ 122 := by
    clear hl hR
    induction ys with
    | nil => exact ⟨[], rfl, fun _ h => nomatch h⟩
    | cons y ys ih =>
      obtain ⟨c, rfl, hc⟩ := hA y List.mem_cons_self
      obtain ⟨cs, rfl, h2⟩ := ih fun z hz => hA z (List.mem_cons_of_mem _ hz)
      exact ⟨c :: cs, rfl, fun d hd => by
        rcases List.mem_cons.mp hd with rfl | hd
        · exact hc
        · exact h2 d hd⟩
  have hcl : cs.length = sz.toNat := by rw [← hl, List.length_map, List.length_map]
  walk_at "v"
  refine joinM_ok ?_ ?_
  · have : ((cs.map sgn).map (·.length)).sum = cs.length := by
      rw [List.map_map]
      clear hA hR hl hcs hcl
      induction cs with
      | nil => rfl
      | cons c cs ih =>
        rw [List.map_cons, List.sum_cons, ih, List.length_cons]
        show 1 + cs.length = _
        omega
    rw [this]
    show cs.length + _ * 0 ≤ _
    omega
  have hw1 : 1 ≤ (Str.join "" (cs.map sgn)).length ∧ (Str.join "" (cs.map sgn)).length ≤ 6 ∧ ∀ c ∈ tl (Str.join "" (cs.map sgn)), 97 ≤ c ∧ c ≤ 122 := by
    rw [tl_len, tl_join0]
    exact ⟨by omega, by omega, hcs⟩
  generalize Str.join "" (cs.map sgn) = w1 at hw1
  clear hl hR hA hcl hcs cs
  repeat' (walk_at "v1s")
  walk_at "vcut"
  have key : ∀ x : Str, (1 ≤ x.length ∧ x.length ≤ 6 ∧ ∀ c ∈ tl x, 97 ≤ c ∧ c ≤ 122) → N' [.fz .drw, .fz (.lst (taken.map D.str)), .fz (.str LETS), .fz (.int sz), .fz (.str x), .no, .no] := fun x hx => by
    walk_at "v"
    · rename_i h1 h2
      exact q x ⟨hx.1, hx.2.1, hx.2.2, fun z => by subst z; exact h2 (by decide), fun z => by subst z; exact h2 (by decide)⟩ h1
    all_goals
      refine filV_mapS _ (fun c => !decide (sgn c ++ sgn c ∈ taken)) (fun c => .str (sgn c ++ sgn c)) (fun c hc Q' hQ => ?_) (fun c hc hp Q' hQ => ?_) ?_
      · have s1 : (sgn c).length = 1 := rfl
        walk_at "v"
        exact hQ
      · have s1 : (sgn c).length = 1 := rfl
        walk_at "v"
        exact hQ
      · have hne := free_double ht
        have hmem : ∀ c ∈ (tl LETS).filter (fun c => !decide (sgn c ++ sgn c ∈ taken)), NmOk (sgn c ++ sgn c) ∧ sgn c ++ sgn c ∉ taken := fun c hc => by
          have h1 := List.mem_filter.mp hc
          have h2 := mem_LETS.mp h1.1
          have h3 : tl (sgn c ++ sgn c) = [c, c] := by rw [tl_app, tl_sgn]; rfl
          refine ⟨⟨?_, ?_, fun d hd => ?_, fun z => ?_, fun z => ?_⟩, by simpa using h1.2⟩
          · rw [tl_len, h3]; show 1 ≤ 2; omega
          · rw [tl_len, h3]; show 2 ≤ 6; omega
          · rw [h3] at hd; simp at hd; omega
          · have := congrArg (fun x => (tl x).length) z
            simp only [h3] at this
            exact absurd (show (2 : Nat) = (tl ("all" : Str)).length from this) (by decide +kernel)
          · have := congrArg (fun x => (tl x).length) z
            simp only [h3] at this
            exact absurd (show (2 : Nat) = (tl ("some" : Str)).length from this) (by decide +kernel)
        generalize (tl LETS).filter (fun c => !decide (sgn c ++ sgn c ∈ taken)) = fs at hne hmem
        cases fs with
        | nil => exact absurd rfl hne
        | cons c fs =>
          have := hmem c List.mem_cons_self
          exact ⟨_, atI_nat (j := 0) rfl, q _ this.1 this.2⟩
  walk_at "v"
  · rename_i r r0 r1
    refine ixS_ok (at_LETS r0 r1) (by decide +kernel) ?_
    have hl6 : (cutS "aaaaaa" none (some (sz - 1))).length = (sz - 1).toNat := by
      rw [tl_len, tl_cutS]
      have e6 : ("aaaaaa" : Str).length = 6 := by decide +kernel
      have e7 : (tl ("aaaaaa" : Str)).length = 6 := by decide +kernel
      have e8 : HT.sIx ("aaaaaa" : Str).length ("aaaaaa" : Str).length (some (sz - 1)) = (sz - 1).toNat := by
        rw [e6]
        show (if sz - 1 < 0 then _ else min (sz - 1).toNat 6) = _
        rw [if_neg (by omega)]
        omega
      have e9 : HT.sIx ("aaaaaa" : Str).length 0 none = 0 := rfl
      rw [e8, e9, List.length_take, List.length_drop, e7]
      omega
    have hc6 : ∀ c ∈ tl (cutS "aaaaaa" none (some (sz - 1))), 97 ≤ c ∧ c ≤ 122 := fun c hc => by
      rw [tl_cutS] at hc
      have h2 := List.mem_of_mem_drop (List.mem_of_mem_take hc)
      have e7 : tl ("aaaaaa" : Str) = [97, 97, 97, 97, 97, 97] := by decide +kernel
      rw [e7] at h2
      simp at h2
      omega
    have s1 : (sgn (r.toNat + 97)).length = 1 := rfl
    walk_at "v"
    refine key _ ⟨?_, ?_, fun c hc => ?_⟩
    · rw [tl_len, tl_app, List.length_append, ← tl_len, hl6, tl_sgn]
      show 1 ≤ _ + 1
      omega
    · rw [tl_len, tl_app, List.length_append, ← tl_len, hl6, tl_sgn]
      show _ + 1 ≤ 6
      omega
    · rw [tl_app, tl_sgn] at hc
      rcases List.mem_append.mp hc with hc | hc
      · exact hc6 c hc
      · rw [List.mem_singleton.mp hc]
        omega
  · exact key w1 hw1
theorem v_law_name_drawn {T : Top w K mg} {taken : List Str} {Q : D → Prop} {E : Er → Prop} (h : taken.length ≤ 10) (q : ∀ x, NmOk x → x ∉ taken → Q (.str x)) : m_law_name_drawn T [.drw, .lst (List.map D.str taken)] Q E := ⟨taken, rfl, h, q⟩
local macro_rules | `(tactic| walk_at "vcall") => `(tactic| ((with_reducible refine' v_law_name_drawn ?e1 ?_); (case e1 => walk_at "vside"); intro x' hx' hn'))
/-! ### _law_saying -/

def m_law_saying (T : Top w K mg) : List D → M := fun ds Q _ => ∃ most times : Int, ds = [.drw, .int most, .int times] ∧ (1 ≤ most ∧ most ≤ 4) ∧ (1 ≤ times ∧ times ≤ 4) ∧ ∀ s, SayOk most.toNat times.toNat s → Q (sayD s)
def SayP (Q0 : D → Prop) (ρ : En) : Prop := ∃ (most times : Nat) (f : List (Bool × Str)), ρ = [.fz .drw, .fz (.int (most : Int)), .fz (.int (times : Int)), .ow ((f.map (·.2)).map D.str), .ow (f.map frD), .no, .no, .no, .no] ∧ (1 ≤ f.length ∧ f.length ≤ most) ∧ most ≤ 4 ∧ (∀ p ∈ f, NmOk p.2) ∧ (f.map (·.2)).Nodup ∧ (1 ≤ times ∧ times ≤ 4) ∧ ∀ s, SayOk most times s → Q0 (sayD s)
theorem at_lastS {α : Type} {l : List α} {x : α} : atI (l ++ [x]) (-1) = some x := by
  have h : ixN (l ++ [x]).length (-1) = some l.length := by
    unfold ixN
    simp
    omega
  unfold atI
  rw [h]
  show (l ++ [x])[l.length]? = some x
  simp
theorem none_back {H H' : Hp} {a : Addr} (s : L2.Same H H') (h : H' a = none) : H a = none := by
  cases q : H a with
  | none => rfl
  | some o =>
    have := s _ _ q
    rw [h] at this
    cases this
theorem list9 {α : Type} {l : List α} (h : l.length = 9) : ∃ a b c d e f g i j, l = [a, b, c, d, e, f, g, i, j] := by
  match l, h with
  | [a, b, c, d, e, f, g, i, j], _ => exact ⟨a, b, c, d, e, f, g, i, j, rfl⟩
theorem ov_law_saying (T : Top w K mg) : FnOk P w K mg base (L2.CX P w) 11 T.law_saying.a T.law_saying.fd ["_law_draw", "_law_most", "_law_times_of"] (spV K 0 3 (m_law_saying T)) := by
  refine T.law_saying.F.okX sc_law_saying (spV_len rfl) (fun cdv A outer s H vs Q E hr h => ?_)
  refine ⟨_, (pss_cons (ps_own2 (ps_par (i := 3) (j := 4) rfl sc_law_saying.nd rfl rfl (by decide) rfl rfl (pa_cons (pe_lst pa_nil) (pa_cons (pe_lst pa_nil) pa_nil)) rfl))
    (pss_cons (ps_forF [5] (ps_for (passes_of rfl) rfl (pi_range1 (by rfl) T.z_range (pa_cons (pe_op (op_addX K rfl) pe_int (pe_call (ov_law_pick T) (hr.mono (by decide)) rfl T.law_pick.g T.law_pick.F.kp T.law_pick.b .nil (passes_call (takes_of rfl rfl rfl rfl) (fun _ _ _ _ h => h)) (pa_cons (pv 0) (pa_cons (pv 1) pa_nil)))) pa_nil)) (pg_name (i := 5) sc_law_saying.nd rfl (Or.inl rfl)) (pss_cons (ps_expr (pe_bmK K rfl PySem.F.plainAttrs_list PySem.F.slot_list_append PySem.F.type_list_append mt_append (pv 3) (pa_cons (pe_call (ov_law_name_drawn T) (hr.mono (by decide)) rfl T.law_name_drawn.g T.law_name_drawn.F.kp T.law_name_drawn.b .nil (passes_call (takes_of rfl rfl rfl rfl) (fun _ _ _ _ h => h)) (pa_cons (pv 0) (pa_cons (pv 3) pa_nil))) pa_nil)))
    (pss_one (ps_expr (pe_bmK K rfl PySem.F.plainAttrs_list PySem.F.slot_list_append PySem.F.type_list_append mt_append (pv 4) (pa_cons (pe_tup (pa_cons (pe_ix (ix_QK K rfl) (pe_lst (pa_cons pe_str (pa_cons pe_str pa_nil))) (pe_call (ov_law_pick T) (hr.mono (by decide)) rfl T.law_pick.g T.law_pick.F.kp T.law_pick.b .nil (passes_call (takes_of rfl rfl rfl rfl) (fun _ _ _ _ h => h)) (pa_cons (pv 0) (pa_cons pe_int pa_nil))) (fun _ _ => rfl)) (pa_cons (pe_ix (ix_QK K rfl) (pv 3) (pe_un un_neg pe_int) (fun _ _ => rfl)) pa_nil))) pa_nil)))))))
    (pss_cons (ps_set (i := 6) sc_law_saying.nd rfl (Or.inl rfl) pe_dnewK)
    (pss_cons (ps_for (passes_of rfl) rfl (pi_seqK K rfl (pv 3)) (pg_name (i := 7) sc_law_saying.nd rfl (Or.inl rfl)) (pss_one (ps_dput (room1 hr) (pv 6) (pv 7) pe_int rfl)))
    (pss_cons (ps_set (i := 8) sc_law_saying.nd rfl (Or.inl rfl) (pe_lst (pa_cons (pe_call (ov_law_one T) (hr.mono (by decide)) rfl T.law_one.g T.law_one.F.kp T.law_one.b .nil (passes_call (takes_of rfl rfl rfl rfl) (fun _ _ _ _ h => h)) (pa_cons (pv 0) (pa_cons (pe_lst (pa_cons pe_int (pa_cons pe_int (pa_cons pe_int pa_nil)))) pa_nil))) (pa_cons (pe_op op_sub (pe_op op_mul (pv 2) (pe_callB (call_lenQK K rfl) (by rfl) T.z_len (by decide +kernel) (pa_cons (pv 3) pa_nil))) pe_int) (pa_cons (pv 6) (pa_cons (pv 2) pa_nil))))))
    (pss_one (ps_ret (pe_tup (pa_cons (pe_callTy (call_tupQK K rfl) (by rfl) T.z_tuple (by decide +kernel) (pa_cons (pv 4) pa_nil)) (pa_cons (pe_call (ok_body_n T 6) (hr.mono (by decide)) rfl T.law_body.g T.law_body.F.kp T.law_body.b .nil (passes_call (takes_of rfl rfl rfl rfl) (fun _ _ _ _ h => h)) (pa_cons (pv 0) (pa_cons (pv 3) (pa_cons (pv 8) (pa_cons pe_int pa_nil))))) pa_nil)))))))))), ?_⟩
  refine seq_in (fnV_cut h (fun Q0 E0 ρ => SayP Q0 ρ) (fun ds Q0 E0 hl hm => ?_) ?_)
  · obtain ⟨mostI, timesI, rfl, hm1, ht1, q⟩ := hm
    obtain ⟨most, rfl⟩ := Int.eq_ofNat_of_zero_le (show 0 ≤ mostI by omega)
    obtain ⟨times, rfl⟩ := Int.eq_ofNat_of_zero_le (show 0 ≤ timesI by omega)
    rw [Int.toNat_natCast, Int.toNat_natCast] at q
    have hm1 : 1 ≤ most ∧ most ≤ 4 := by omega
    have ht1 : 1 ≤ times ∧ times ≤ 4 := by omega
    show vSeq _ _ ⟨_, _, _, _, _⟩ [.fz .drw, .fz (.int (most : Int)), .fz (.int (times : Int)), .no, .no, .no, .no, .no, .no]
    walk_at "v"
    rename_i r r0 r1
    refine forRP (fun i ρ => ∃ f : List (Bool × Str), f.length = i ∧ (∀ p ∈ f, NmOk p.2) ∧ (f.map (·.2)).Nodup ∧ ρ = [.fz .drw, .fz (.int (most : Int)), .fz (.int (times : Int)), .ow ((f.map (·.2)).map D.str), .ow (f.map frD), .no, .no, .no, .no]) ⟨[], rfl, (fun _ h => nomatch h), List.nodup_nil, rfl⟩ (fun i ρ N hi hP hN => ?_) (fun ρ hP => ?_)
    · obtain ⟨f, hf, hf1, hf2, rfl⟩ := hP
      have hf10 : (f.map (·.2)).length ≤ 10 := by rw [List.length_map]; omega
      walk_at "v"
      rename_i x hx hnx r' hr0 hr1
      have go : ∀ b : Bool, N [.fz .drw, .fz (.int (most : Int)), .fz (.int (times : Int)), .ow ((f.map (·.2)).map D.str ++ [.str x]), .ow (f.map frD ++ [frD (b, x)]), .fz (.int (0 + (i : Int))), .no, .no, .no] := fun b => by
        refine useP hN (WkE.refl _) ⟨f ++ [(b, x)], by simp [hf], fun p hp => ?_, ?_, ?_⟩
        · rcases List.mem_append.mp hp with hp | hp
          · exact hf1 p hp
          · rw [List.mem_singleton.mp hp]; exact hx
        · rw [List.map_append]
          exact nodup_snoc hf2 hnx
        · simp
      obtain rfl | rfl : r' = 0 ∨ r' = 1 := by omega
      · refine ⟨_, rfl, ?_⟩
        walk_at "v"
        try (refine ⟨_, at_lastS, ?_⟩; walk_at "v")
        exact go true
      · refine ⟨_, rfl, ?_⟩
        walk_at "v"
        try (refine ⟨_, at_lastS, ?_⟩; walk_at "v")
        exact go false
    · obtain ⟨f, hf, hf1, hf2, rfl⟩ := hP
      exact ⟨most, times, f, rfl, ⟨by omega, by omega⟩, hm1.2, hf1, hf2, ht1, q⟩
  · rintro Q0 E0 ρ σ H1 as H0 ⟨most, times, f, rfl, hfl, hmost, hf1, hf2, ht1, q⟩ R qq
    obtain ⟨hlen, _, oS, h0, own, sl, inj⟩ := R
    have s0 := sl 0 _ rfl
    have s2 := sl 2 _ rfl
    have s3 := sl 3 _ rfl
    have s4 := sl 4 _ rfl
    have i34 := fun a => inj 3 4 _ _ a rfl rfl
    obtain ⟨x0, x1, x2, x3, x4, x5, x6, x7, x8, rfl⟩ := list9 hlen
    clear sl inj hlen
    obtain _ | v0 := x0
    · exact s0.elim
    obtain _ | v2 := x2
    · exact s2.elim
    obtain _ | v3 := x3
    · exact s3.elim
    obtain _ | v4 := x4
    · exact s4.elim
    have r0 : Rp K H0 v0 .drw := s0
    have r2 : Rp K H0 v2 (.int (times : Int)) := s2
    obtain ⟨na, nvs, e3, ha3, g3, w3⟩ := s3
    obtain ⟨fa, fvs, e4, ha4, g4, w4⟩ := s4
    subst e3
    subst e4
    cases r2
    rw [rpStrs_inv w3] at g3
    cases r0 with
    | drw hdr =>
    rename_i dr
    have hdr1 : Drw H1 dr := hdr.mono (L2.Same.trans h0 hidL_le)
    have hne : na ≠ fa := fun z => by
      subst z
      exact absurd (i34 na rfl rfl) (by decide)
    have hS0 : L2.Same H H1 := L2.Same.trans oS (L2.Same.trans h0 hidL_le)
    replace w4 : RpA K H1 fvs (f.map frD) := w4.mono (LamX.ExtN.of hidL_le)
    clear s0 s2 i34 hdr h0 oS own ha3 ha4 w3
    walk_at "py"
    intro ct hct
    have s1 : L2.Same H1 (upd H1 ct (.dK [])) := same_new hct
    have ect : upd H1 ct (.dK []) ct = some (.dK []) := upd_same
    generalize upd H1 ct (.dK []) = H2 at s1 ect
    have n3 : na ≠ ct := fun z => by rw [z, hct] at g3; cases g3
    have n4 : fa ≠ ct := fun z => by rw [z, hct] at g4; cases g4
    replace g3 := s1 _ _ g3
    replace g4 := s1 _ _ g4
    have hdr2 : Drw H2 dr := hdr1.mono s1
    have hS2 := L2.Same.trans hS0 s1
    replace w4 := w4.mono (LamX.ExtN.of s1)
    have hHc : H ct = none := none_back hS0 hct
    clear hdr1 hS0 hct
    walk_at "py"
    refine g_rSeq (sqL g3) fun J G wk hG => ?_
    refine fl_seq (H0 := H2) (a := na) wk hG (fun j σ H' => ∃ y, σ = [some (V.ref dr), x1, some (V.int ↑times), some (V.ref na), some (V.ref fa), x5, some (V.ref ct), y, x8] ∧ Out ct ct H2 H' ∧ H' ct = some (.dK (cntK ((f.map (·.2)).take j) fun _ => 0))) ⟨_, rfl, Out.of (L2.Same.refl _), ect⟩ (fun j σ H' hP o e => ?_) (fun j x σ H' hx hP => ?_) (fun σ H' hP => ?_)
    · obtain ⟨_, _, ho, _⟩ := hP
      exact ho na o n3 n3 e
    · obtain ⟨y, rfl, ho, e5⟩ := hP
      rw [List.getElem?_map] at hx
      cases hx2 : (f.map (·.2))[j]? with
      | none => rw [hx2] at hx; cases hx
      | some nm =>
      rw [hx2] at hx
      cases hx
      walk_at "py"
      refine ⟨V.ref ct, rfl, V.str nm, rfl, g_dpS e5 ?_ ?_⟩
      · unfold cntK
        rw [List.length_map, List.length_take, List.length_map]
        omega
      · refine ⟨_, rfl, ho.trans Out.dc, ?_⟩
        rw [upd_same]
        have := cntK_snoc (nodup_at hf2 hx2)
        rw [take_snoc' hx2, ← this]
    · obtain ⟨y, rfl, ho, e5⟩ := hP
      rw [List.length_map, List.take_length] at e5
      have g3' := ho _ _ n3 n3 g3
      have g4' := ho _ _ n4 n4 g4
      have hdr' : Drw H' dr := by
        obtain ⟨cl, ns, h1, h2⟩ := hdr2
        have z1 : dr ≠ ct := ne_of h1 ect fun z => by unfold DrawO at z; cases z
        have z2 : cl ≠ ct := ne_of h2 ect fun z => by cases z
        exact ⟨cl, ns, ho _ _ z1 z1 h1, ho _ _ z2 z2 h2⟩
      have w4' : RpA K H' fvs (f.map frD) := w4.out (fun a u _ h2 e => by
        have z : a ≠ ct := fun z => by
          subst z
          rw [ect] at e
          exact h2 _ (Option.some.inj e).symm
        exact ho _ _ z z e) (flat_frD f)
      have oH : ∀ a o, H a = some o → H' a = some o := fun a o e => by
        have z : a ≠ ct := fun z => by rw [z, hHc] at e; cases e
        exact ho _ _ z z (hS2 _ _ e)
      clear ho hdr2 w4 g3 g4 hS2 ect s1
      walk_at "py"
      rename_i p1 H3 n1 s3 e1
      refine ⟨[.drw, .lst [.int 23, .int 8, .int 4]], rfl, .cons (.drw (hdr'.mono s3)) (.cons (.lst e1 (.cons (.int _) (.cons (.int _) (.cons (.int _) .nil)))) .nil), fun d => ∃ k0 : Int, d = .int k0 ∧ 0 ≤ k0 ∧ k0 ≤ 23, fun _ => False, ⟨_, .inl rfl, ⟨Nat.le_of_ble_eq_true rfl, Nat.le_of_ble_eq_true rfl⟩, fun d hd => ?_⟩, fun d v H4 hd s4 r4 _ => ?_, fun _ z => z.elim⟩
      · rcases List.mem_cons.mp hd with rfl | hd
        · exact ⟨23, rfl, by decide, by decide⟩
        · rcases List.mem_cons.mp hd with rfl | hd
          · exact ⟨8, rfl, by decide, by decide⟩
          · rw [List.mem_singleton.mp hd]
            exact ⟨4, rfl, by decide, by decide⟩
      obtain ⟨k0, rfl, hk0, hk1⟩ := hd
      cases r4
      have s34 : L2.Same H' H4 := L2.Same.trans s3 s4
      have g3'' := s34 _ _ g3'
      have g4'' := s34 _ _ g4'
      walk_at "py"
      rename_i kt H5 n5 s5 e5' tp H6 s6 e6
      have lf : (List.map V.str (List.map (fun x : Bool × Str => x.snd) f)).length = f.length := by rw [List.length_map, List.length_map]
      rw [lf] at e5'
      have s46 : L2.Same H4 H6 := L2.Same.trans s5 s6
      have s36 : L2.Same H' H6 := L2.Same.trans s34 s46
      have hK : KitS H6 dr na kt ct (f.map (·.2)) k0 ((times : Int) * (f.length : Int) - 1) (times : Int) (fun _ => 0) := ⟨hdr'.mono s36, s36 _ _ g3', s6 _ _ e5', s36 _ _ e5⟩
      have hHk : H kt = none := by
        cases q : H kt with
        | none => rfl
        | some o =>
          have := s34 _ _ (oH _ _ q)
          rw [n5] at this
          cases this
      have sum0 : sumC (f.map (·.2)) (fun _ => 0) = 0 := by
        unfold sumC
        clear hK e5 g3' g3'' g4'' hf1 hf2 hfl e5' w4' lf wk
        induction f with
        | nil => rfl
        | cons p f ih =>
          rw [List.map_cons, List.map_cons, List.sum_cons, ih]
          rfl
      have hm : (1 : Int) ≤ (times : Int) * (f.length : Int) := by
        have := Nat.mul_le_mul ht1.1 hfl.1
        have h2 : ((1 * 1 : Nat) : Int) ≤ ((times * f.length : Nat) : Int) := Int.ofNat_le.mpr this
        rw [Int.natCast_mul times] at h2
        simpa using h2
      refine ⟨dr, na, kt, ct, f.map (·.2), k0, (times : Int) * (f.length : Int) - 1, (times : Int), fun _ => 0, rfl, hK, hf2, by rw [List.length_map]; omega, by decide, hk0, by omega, by rw [sum0, List.length_map]; omega, fun x _ => by simp, fun b k0' k1' c' v H7 hB o7 e71 e72 rv => ?_⟩
      walk_at "py"
      rename_i tq H8 n8 s8 e8
      have o8 : Out kt ct H6 H8 := o7.trans (Out.of s8)
      refine qq (sayD ⟨f, b⟩) _ _ (q ⟨f, b⟩ ⟨hfl, hf1, hf2, ?_, hB.deep, hB.nms, fun x hx => ?_⟩) (fun a o e => ?_) (.tup (.inl (.inl e8)) (.cons ?_ (.cons (rv.mono (LamX.ExtN.of s8)) .nil))) True.intro
      · have h1 := hB.parts
        have h2 := hB.p0
        show b.parts ≤ 24
        omega
      · have h1 := hB.le x hx
        rw [hB.oft] at h1
        show b.often x ≤ times
        omega
      · have z1 : a ≠ kt := fun z => by rw [z, hHk] at e; cases e
        have z2 : a ≠ ct := fun z => by rw [z, hHc] at e; cases e
        exact o8 a o z1 z2 (s36 _ _ (oH _ _ e))
      · refine hK.flat o8 (.tup e6 (w4'.mono (LamX.ExtN.of s36))) ?_
        show flatD (.tup (f.map frD)) = true
        rw [flatD]
        exact flat_frD f
theorem v_law_saying {T : Top w K mg} {most times : Int} {Q : D → Prop} {E : Er → Prop} (h1 : 1 ≤ most ∧ most ≤ 4) (h2 : 1 ≤ times ∧ times ≤ 4) (q : ∀ s, SayOk most.toNat times.toNat s → Q (sayD s)) : m_law_saying T [.drw, .int most, .int times] Q E := ⟨most, times, rfl, h1, h2, q⟩
local macro_rules | `(tactic| walk_at "vcall") => `(tactic| ((with_reducible refine' v_law_saying ?e1 ?e2 ?_); (case e1 => exact ⟨by omega, by omega⟩); (case e2 => exact ⟨by omega, by omega⟩); intro s' hs'))
/-! ### _law_names_in -/
def m_law_names_in (T : Top w K mg) : List D → M := fun ds Q _ => ∃ (f : List (Str × Str)) (d : D), ds = [.tup [.tup (f.map fun p => D.tup [.str p.1, .str p.2]), d]] ∧ f.length ≤ 1000 ∧ Q (.lst ((f.map (·.2)).map D.str))
theorem ov_law_names_in (T : Top w K mg) : FnOk P w K mg base (L2.CX P w) 1 T.law_names_in.a T.law_names_in.fd ["_law_saying_here"] (spV K 0 1 (m_law_names_in T)) := by
  refine T.law_names_in.F.okX sc_law_names_in (spV_len rfl) (fun cdv A outer s H vs Q E hr h => ?_)
  refine ⟨_, (pss_one (ps_ret (pe_lcV (own := [("_law_word", 1), ("_law_name", 2)]) [1, 2] rfl sc_law_names_in.nd (pi_seqK K rfl (pe_ix (ix_QK K rfl) (pv 0) pe_int (fun _ _ => rfl))) (blkOk_by (own := [("_law_word", 1), ("_law_name", 2)]) (N := ["_law_saying_here", "_law_word", "_law_name"]) (sc := defScope s_law_names_in) (by decide +kernel)) (fun _ _ _ _ _ => (pg_tupK (n := 2) K rfl rfl (pgs_cons (pg_name (i := 1) sc_law_names_in.nd rfl (by first | exact Or.inl rfl | exact Or.inr rfl)) (pgs_cons (pg_name (i := 2) sc_law_names_in.nd rfl (by first | exact Or.inl rfl | exact Or.inr rfl)) pgs_nil)))) (fun _ _ _ _ _ => pts_nil) (fun _ _ _ _ _ => (pe_hid (pv 2)))))), ?_⟩
  refine fnV rfl h (fun ds Q0 E0 hl hm => ?_)
  obtain ⟨f, d, rfl, hl', q⟩ := hm
  show vRet _ ⟨_, _, _, _, _⟩ [.fz (.tup [.tup (f.map fun p => D.tup [.str p.1, .str p.2]), d]), .no, .no]
  walk_at "v"
  refine mapV_map (fun p : Str × Str => D.tup [.str p.1, .str p.2]) (fun p => .str p.2) (fun p hp Q' hQ => ?_) ?_
  · show elV _ _ _ _ (.tup [.str p.1, .str p.2]) _ _
    walk_at "v"
    exact hQ
  · rw [show f.map (fun p => D.str p.2) = List.map D.str (f.map (·.2)) by rw [List.map_map]; rfl]
    walk_at "v"
    exact q
theorem v_law_names_in {T : Top w K mg} {s : Say} {Q : D → Prop} {E : Er → Prop} (h : s.front.length ≤ 1000) (q : Q (.lst (List.map D.str s.nm))) : m_law_names_in T [sayD s] Q E := by
  refine ⟨s.front.map fun p => (wordS p.1, p.2), bD s.body, ?_, by rw [List.length_map]; exact h, ?_⟩
  · rw [List.map_map]
    rfl
  · rw [show (s.front.map fun p => (wordS p.1, p.2)).map (·.2) = s.nm from by rw [List.map_map]; rfl]
    exact q
theorem v_law_names_inF {T : Top w K mg} {f : List (Str × Str)} {d : D} {Q : D → Prop} {E : Er → Prop} (h : f.length ≤ 1000) (q : Q (.lst (List.map D.str (f.map (·.2))))) : m_law_names_in T [.tup [.tup (f.map fun p => D.tup [.str p.1, .str p.2]), d]] Q E := ⟨f, d, rfl, h, q⟩
local macro_rules | `(tactic| walk_at "vcall") => `(tactic| ((with_reducible refine' v_law_names_in ?e1 ?_); (case e1 => omega)))
/-! ### _law_good_body -/
theorem cutD_frN (ds : List D) (b : Nat) (h1 : b ≤ ds.length) : cutD ds (some (b : Int)) none = ds.drop b := by
  unfold cutD
  rw [HT.sIx_nat, HT.sIx_none, Nat.min_eq_left h1]
  exact List.take_of_length_le (by rw [List.length_drop]; omega)
theorem cutD_toM (ds : List D) (b : Nat) (h1 : b ≤ ds.length) : cutD ds none (some (b : Int)) = ds.take b := by
  unfold cutD
  rw [HT.sIx_nat, HT.sIx_none, Nat.min_eq_left h1, Nat.sub_zero, List.drop_zero]
theorem cut1_cons {d : D} {ds : List D} : cutD (d :: ds) (some 1) none = ds := cutD_frN (d :: ds) 1 (by simp)
theorem arity_in {w : Str} (h : 1 ≤ arity w) : w ∈ [("not" : Str), "and", "or"] := by
  unfold arity at h
  by_cases h1 : w = ("not" : Str)
  · simp [h1]
  by_cases h2 : w = ("and" : Str)
  · simp [h2]
  by_cases h3 : w = ("or" : Str)
  · simp [h3]
  rw [if_neg h1, if_neg h2, if_neg h3] at h
  omega
theorem arity_of {w : Str} (h : w ∈ [("not" : Str), "and", "or"]) : (1 : Int) + (if (!decide (w = ("not" : Str))) = true then 1 else 0) = (arity w : Nat) := by
  simp only [List.mem_cons, List.not_mem_nil, or_false] at h
  rcases h with rfl | rfl | rfl <;> decide +kernel
def m_law_good_body (T : Top w K mg) : Nat → List D → M
  | 0 => fun _ _ _ => False
  | n + 1 => fun ds Q _ => ∃ (d : D) (names : List Str) (room m : Nat), ds = [d, .lst (names.map D.str), .int (room : Int)] ∧ room ≤ n ∧ Th m d ∧ names.length ≤ 1000 ∧ ∀ r : Bool, (r = true ↔ BdIn names room d) → Q (.bl r)
theorem ov_law_good_body_n (T : Top w K mg) : ∀ n : Nat, FnOk P w K mg base (L2.CX P w) (1 + n + 1) T.law_good_body.a T.law_good_body.fd ["_law_body_here", "_law_names", "_law_room"] (spV K 0 3 (m_law_good_body T n))
  | 0 => by
    refine T.law_good_body.F.okX sc_law_good_body (spV_len rfl) (fun cdv A outer s H vs Q E hr h => ?_)
    obtain ⟨ds, _, _, Q0, E0, hm, _⟩ := h
    exact hm.elim
  | n + 1 => by
    have ih := ov_law_good_body_n T n
    refine T.law_good_body.F.okX sc_law_good_body (spV_len rfl) (fun cdv A outer s H vs Q E hr h => ?_)
    refine ⟨_, (pss_cons (ps_if (PW.pt (pw_or (pt_cmpR (op_eqX K rfl hr) (pv 2) pe_int (nomark _)) (pw_or (pt_not (pt_val (pe_isi "tuple" (pe_callB (call_isiK2 K rfl) (by rfl) T.z_isinstance (by decide +kernel) (pa_cons (pv 0) (pa_cons (pe_bltn (v := .ty "tuple") (u := .type "tuple") (by rfl) T.z_tuple (by decide +kernel) rfl) pa_nil)))))) (pw_or (pt_cmpR op_lt (pe_callB (call_lenQK K rfl) (by rfl) T.z_len (by decide +kernel) (pa_cons (pv 0) pa_nil)) pe_int (nomark _)) (pw_or1 (pt_not (pt_val (pe_isi "str" (pe_callB (call_isiK2 K rfl) (by rfl) T.z_isinstance (by decide +kernel) (pa_cons (pe_ix (ix_QK K rfl) (pv 0) pe_int (fun _ _ => rfl)) (pa_cons (pe_bltn (v := .ty "str") (u := .type "str") (by rfl) T.z_str (by decide +kernel) rfl) pa_nil))))))))))) (pss_one (ps_ret pe_bl)) pss_nil)
    (pss_cons (ps_if (pt_cmpR (op_eqX K rfl hr) (pe_ix (ix_QK K rfl) (pv 0) pe_int (fun _ _ => rfl)) pe_str (nomark _)) (pss_one (ps_ret (pe_and (pe_cmpR (op_eqX K rfl hr) (pe_callB (call_lenQK K rfl) (by rfl) T.z_len (by decide +kernel) (pa_cons (pv 0) pa_nil)) pe_int (nomark _)) (pe_and (pe_isi "str" (pe_callB (call_isiK2 K rfl) (by rfl) T.z_isinstance (by decide +kernel) (pa_cons (pe_ix (ix_QK K rfl) (pv 0) pe_int (fun _ _ => rfl)) (pa_cons (pe_bltn (v := .ty "str") (u := .type "str") (by rfl) T.z_str (by decide +kernel) rfl) pa_nil)))) (pe_one (pe_cmpR (op_inQK K rfl) (pe_ix (ix_QK K rfl) (pv 0) pe_int (fun _ _ => rfl)) (pv 1) (by rfl))))))) pss_nil)
    (pss_cons (ps_if (PW.pt (pw_or (pt_cmpR (op_notInQK K rfl) (pe_ix (ix_QK K rfl) (pv 0) pe_int (fun _ _ => rfl)) (pe_lst (pa_cons pe_str (pa_cons pe_str (pa_cons pe_str pa_nil)))) (by rfl)) (pw_or1 (pt_cmpR (op_neX K rfl hr) (pe_callB (call_lenQK K rfl) (by rfl) T.z_len (by decide +kernel) (pa_cons (pv 0) pa_nil)) (pe_op (op_addX K rfl) pe_int (pe_callTy call_intX (by rfl) T.z_int (by decide +kernel) (pa_cons (pe_cmpR (op_neX K rfl hr) (pe_ix (ix_QK K rfl) (pv 0) pe_int (fun _ _ => rfl)) pe_str (nomark _)) pa_nil))) (nomark _))))) (pss_one (ps_ret pe_bl)) pss_nil)
    (pss_one (ps_ret (pe_callB (cr_allK K rfl rfl) (by rfl) T.z_all (by decide +kernel) (pa_cons (pe_lcV (own := [("_law_b", 3)]) [3] rfl sc_law_good_body.nd (pi_seqK K rfl (pe_slice (sl_Q K rfl) (pv 0) (po_some pe_int) po_none)) (blkOk_by (own := [("_law_b", 3)]) (N := ["_law_body_here", "_law_names", "_law_room", "_law_b"]) (sc := defScope s_law_good_body) (by decide +kernel)) (fun _ _ _ _ _ => (pg_name (i := 3) sc_law_good_body.nd rfl (by first | exact Or.inl rfl | exact Or.inr rfl))) (fun _ _ _ _ _ => pts_nil) (fun _ _ _ _ _ => (pe_hid (pe_call ih hr rfl T.law_good_body.g T.law_good_body.F.kp T.law_good_body.b .nil passL (pa_cons (pv 3) (pa_cons (pv 1) (pa_cons (pe_op op_sub (pv 2) pe_int) pa_nil))))))) pa_nil))))))), ?_⟩
    refine fnV rfl h (fun ds Q0 E0 hl hm => ?_)
    obtain ⟨d, names, room, m, rfl, hr', hT, hn, q⟩ := hm
    show vSeq _ _ ⟨_, _, _, _, _⟩ [.fz d, .fz (.lst (names.map D.str)), .fz (.int (room : Int)), .no]
    have no : ¬ BdIn names room d → Q0 (.bl false) := fun h => q false ⟨fun z => (nomatch z), fun z => (h z).elim⟩
    rcases Nat.eq_zero_or_pos room with rfl | hpos
    · walk_at "v"
      exact no BdIn.zero
    · obtain ⟨room, rfl⟩ : ∃ k, room = k + 1 := ⟨room - 1, by omega⟩
      have hz : ¬ ((room + 1 : Nat) : Int) = 0 := by omega
      cases d with
      | str x =>
        walk_at "v"
        exact no fun h => by obtain ⟨_, _, e, _⟩ := h.tup; cases e
      | tup ds =>
        cases m with
        | zero => exact hT.elim
        | succ m =>
        obtain ⟨hdl, hT⟩ := hT
        match ds, hdl, hT, no, q with
        | [], _, _, no, _ =>
          have h2 : ((([] : List D).length : Nat) : Int) < 2 := by decide
          walk_at "v"
          exact no fun h => by obtain ⟨_, _, e, _⟩ := h.tup; cases e
        | [d], _, _, no, _ =>
          have h2 : ((([d] : List D).length : Nat) : Int) < 2 := by simp
          walk_at "v"
          exact no fun h => by
            obtain ⟨_, _, e, h2⟩ := h.tup
            cases e
            exact absurd h2 (by decide)
        | d :: e :: es, hdl, hT, no, q =>
          have h2 : ¬ (((d :: e :: es).length : Nat) : Int) < 2 := by simp only [List.length_cons]; omega
          have hTd := hT d List.mem_cons_self
          cases d with
          | tup ds' =>
            walk_at "v"
            exact no fun h => by obtain ⟨_, _, e, _⟩ := h.tup; cases e
          | str w =>
            have hT2 : ∀ d ∈ e :: es, Th m d := fun d hd => hT d (List.mem_cons_of_mem _ hd)
            clear hT hTd
            have hds1 : 1 ≤ (e :: es).length := by simp
            walk_at "v"
            · rename_i hw h1
              subst hw
              have hes : es = [] := by
                cases es with
                | nil => rfl
                | cons z zs => simp only [List.length_cons] at h1; omega
              subst hes
              have hTe := hT2 e List.mem_cons_self
              cases e with
              | str x =>
                walk_at "v"
                refine q _ ?_
                rw [bdIn_nm, decide_eq_true_eq]
                exact ⟨fun h => ⟨x, rfl, h⟩, fun ⟨y, e, h⟩ => by cases e; exact h⟩
              | tup ds' =>
                walk_at "v"
                refine no fun h => ?_
                obtain ⟨x, e, _⟩ := bdIn_nm.mp h
                cases e
              | _ => cases m <;> exact hTe.elim
            · rename_i hw h1
              subst hw
              refine no fun h => ?_
              obtain ⟨x, e2, _⟩ := bdIn_nm.mp h
              cases e2
              exact h1 rfl
            · rename_i hw h1
              refine no fun h => h1 ?_
              exact arity_in (by rw [← ((bdIn_ot hw hds1).mp h).1]; exact hds1)
            · rename_i hw h1 h3
              refine no fun h => h3 ?_
              have := ((bdIn_ot hw hds1).mp h).1
              have h5 := arity_of h1
              rw [show (D.str w :: e :: es).length = (e :: es).length + 1 from rfl, this]
              generalize (if (!decide (w = Str.ofString "not")) = true then (1 : Int) else 0) = z at h5 ⊢
              omega
            · rename_i hw h1 h3
              have ec : cutD (D.str w :: e :: es) (some 1) none = e :: es := cut1_cons
              rw [ec]
              rw [List.length_cons] at hdl
              have h5 := arity_of h1
              have har : (e :: es).length = arity w := by
                rw [show (D.str w :: e :: es).length = (e :: es).length + 1 from rfl] at h3
                generalize (if (!decide (w = Str.ofString "not")) = true then (1 : Int) else 0) = z at h5 h3
                omega
              refine ⟨by omega, ?_⟩
              refine mapV_B (fun d => yes (BdIn names room d)) (fun d hd Q' hQ => ?_) ?_
              · walk_at "v"
                have e : ((room + 1 : Nat) : Int) - 1 = ((room : Nat) : Int) := by omega
                rw [e]
                obtain ⟨n, rfl⟩ : ∃ k, n = k + 1 := ⟨n - 1, by omega⟩
                exact ⟨d, names, room, m, rfl, by omega, hT2 d hd, hn, fun r hr => by rw [yes_of hr]; exact hQ⟩
              · walk_at "v"
                refine q _ ?_
                rw [List.all_map, List.all_eq_true, bdIn_ot hw hds1]
                exact ⟨fun h => ⟨har, fun d hd => yes_iff.mp (h d hd)⟩, fun h d hd => yes_iff.mpr (h.2 d hd)⟩
          | _ => cases m <;> exact hTd.elim
      | _ => cases m <;> exact hT.elim
theorem ov_law_good_body (T : Top w K mg) : FnOk P w K mg base (L2.CX P w) (10) T.law_good_body.a T.law_good_body.fd ["_law_body_here", "_law_names", "_law_room"] (spV K 0 3 (m_law_good_body T 8)) := ov_law_good_body_n T 8
theorem v_law_good_body {T : Top w K mg} {d : D} {names : List Str} {m : Nat} {Q : D → Prop} {E : Er → Prop} (hT : Th m d) (hn : names.length ≤ 1000) (q : ∀ r : Bool, (r = true ↔ BdIn names 6 d) → Q (.bl r)) : m_law_good_body T 8 [d, .lst (List.map D.str names), .int 6] Q E := ⟨d, names, 6, m, rfl, by decide, hT, hn, q⟩
/-! ### _law_bodies -/
def m_law_bodies (T : Top w K mg) : Nat → List D → M
  | 0 => fun _ _ _ => False
  | n + 1 => fun ds Q _ => ∃ b : Bd, ds = [bD b] ∧ b.deep ≤ n ∧ n ≤ 7 ∧ Q (.lst (b.all.map bD))
theorem ov_law_bodies_n (T : Top w K mg) : ∀ n : Nat, FnOk P w K mg base (L2.CX P w) (1 + n + 1) T.law_bodies.a T.law_bodies.fd ["_law_body_here"] (spV K 0 1 (m_law_bodies T n))
  | 0 => by
    refine T.law_bodies.F.okX sc_law_bodies (spV_len rfl) (fun cdv A outer s H vs Q E hr h => ?_)
    obtain ⟨ds, _, _, Q0, E0, hm, _⟩ := h
    exact hm.elim
  | n + 1 => by
    have ih := ov_law_bodies_n T n
    refine T.law_bodies.F.okX sc_law_bodies (spV_len rfl) (fun cdv A outer s H vs Q E hr h => ?_)
    refine ⟨_, (pss_cons (ps_set (i := 1) sc_law_bodies.nd rfl (Or.inl rfl) (pe_lst (pa_cons (pv 0) pa_nil)))
    (pss_cons (ps_if (pt_cmpR (op_neX K rfl hr) (pe_ix (ix_QK K rfl) (pv 0) pe_int (fun _ _ => rfl)) pe_str (nomark _)) (pss_one (ps_forF [2] (ps_for (passes_of rfl) rfl (pi_hids (pi_seqK K rfl (pe_slice (sl_Q K rfl) (pv 0) (po_some pe_int) po_none))) (pg_name (i := 2) sc_law_bodies.nd rfl (Or.inl rfl)) (pss_one (ps_set (i := 1) sc_law_bodies.nd rfl (Or.inl rfl) (pe_op (op_addX K rfl) (pv 1) (pe_call ih hr rfl T.law_bodies.g T.law_bodies.F.kp T.law_bodies.b .nil (passes_call (takes_of rfl rfl rfl rfl) (fun _ _ _ _ h => h)) (pa_cons (pv 2) pa_nil)))))))) pss_nil)
    (pss_one (ps_ret (pv 1))))), ?_⟩
    refine fnV rfl h (fun ds Q0 E0 hl hm => ?_)
    obtain ⟨b, rfl, hd, hn, q⟩ := hm
    have hp : b.parts + 1 ≤ 2 ^ 7 := Nat.le_trans b.parts_deep (Nat.pow_le_pow_right (by decide) (by omega))
    have hal := b.all_len
    have call : ∀ (c : Bd) (Q' : D → Prop) (E' : Er → Prop), c.deep + 1 ≤ b.deep → Q' (.lst (List.map bD c.all)) → m_law_bodies T n [bD c] Q' E' := fun c Q' E' h2 q' => by
      obtain ⟨n, rfl⟩ : ∃ k, n = k + 1 := ⟨n - 1, by omega⟩
      exact ⟨c, rfl, by omega, by omega, q'⟩
    cases b with
    | nm x =>
      show vSeq _ _ ⟨_, _, _, _, _⟩ [.fz (.tup [.str "name", .str x]), .no, .no]
      walk_at "v"
      exact q
    | nt b =>
      show vSeq _ _ ⟨_, _, _, _, _⟩ [.fz (.tup [.str "not", bD b]), .no, .no]
      walk_at "v"
      show forV _ _ _ ⟨_, _, _, _, _⟩ (List.map bD (Bd.inner (Bd.nt b))) _
      refine forAW (fun i => [.fz (bD (Bd.nt b)), .lt (.lst (List.map bD ((Bd.nt b) :: ((Bd.nt b).inner.take i).flatMap Bd.all))), .no]) (by walk_at "vwk") (fun i d N hi hN => ?_) ?_
      · rw [List.getElem?_map] at hi
        cases hc : (Bd.inner (Bd.nt b))[i]? with
        | none => rw [hc] at hi; cases hi
        | some c' =>
        rw [hc] at hi
        cases hi
        have hci : c'.deep + 1 ≤ (Bd.nt b).deep := Bd.inner_deep (List.mem_of_getElem? hc)
        have hal2 : ((Bd.nt b).inner.take i).flatMap Bd.all ++ c'.all = ((Bd.nt b).inner.take (i + 1)).flatMap Bd.all := by
          rw [take_snoc' hc, List.flatMap_append]
          simp
        have hle : (((Bd.nt b).inner.take (i + 1)).flatMap Bd.all).length + 1 ≤ (Bd.nt b).parts := by
          have h1 := congrArg List.length (Bd.nt b).all_eq
          rw [Bd.all_len, List.length_cons] at h1
          have h2 : (((Bd.nt b).inner.take (i + 1)).flatMap Bd.all).length + (((Bd.nt b).inner.drop (i + 1)).flatMap Bd.all).length = ((Bd.nt b).inner.flatMap Bd.all).length := by
            rw [← List.length_append, ← List.flatMap_append, List.take_append_drop]
          omega
        walk_at "v"
        refine call c' _ _ hci ?_
        walk_at "v"
        rw [← List.map_append, List.cons_append, ← List.length_append, ← List.map_append, List.cons_append, hal2]
        refine ⟨by rw [List.length_map, List.length_cons]; omega, ?_⟩
        walk_at "v"
      · have e : (Bd.inner (Bd.nt b)).take (List.map bD (Bd.inner (Bd.nt b))).length = Bd.inner (Bd.nt b) := by rw [List.length_map, List.take_length]
        rw [e, ← Bd.all_eq]
        walk_at "v"
        exact q
    | an b c =>
      show vSeq _ _ ⟨_, _, _, _, _⟩ [.fz (.tup [.str "and", bD b, bD c]), .no, .no]
      walk_at "v"
      show forV _ _ _ ⟨_, _, _, _, _⟩ (List.map bD (Bd.inner (Bd.an b c))) _
      refine forAW (fun i => [.fz (bD (Bd.an b c)), .lt (.lst (List.map bD ((Bd.an b c) :: ((Bd.an b c).inner.take i).flatMap Bd.all))), .no]) (by walk_at "vwk") (fun i d N hi hN => ?_) ?_
      · rw [List.getElem?_map] at hi
        cases hc : (Bd.inner (Bd.an b c))[i]? with
        | none => rw [hc] at hi; cases hi
        | some c' =>
        rw [hc] at hi
        cases hi
        have hci : c'.deep + 1 ≤ (Bd.an b c).deep := Bd.inner_deep (List.mem_of_getElem? hc)
        have hal2 : ((Bd.an b c).inner.take i).flatMap Bd.all ++ c'.all = ((Bd.an b c).inner.take (i + 1)).flatMap Bd.all := by
          rw [take_snoc' hc, List.flatMap_append]
          simp
        have hle : (((Bd.an b c).inner.take (i + 1)).flatMap Bd.all).length + 1 ≤ (Bd.an b c).parts := by
          have h1 := congrArg List.length (Bd.an b c).all_eq
          rw [Bd.all_len, List.length_cons] at h1
          have h2 : (((Bd.an b c).inner.take (i + 1)).flatMap Bd.all).length + (((Bd.an b c).inner.drop (i + 1)).flatMap Bd.all).length = ((Bd.an b c).inner.flatMap Bd.all).length := by
            rw [← List.length_append, ← List.flatMap_append, List.take_append_drop]
          omega
        walk_at "v"
        refine call c' _ _ hci ?_
        walk_at "v"
        rw [← List.map_append, List.cons_append, ← List.length_append, ← List.map_append, List.cons_append, hal2]
        refine ⟨by rw [List.length_map, List.length_cons]; omega, ?_⟩
        walk_at "v"
      · have e : (Bd.inner (Bd.an b c)).take (List.map bD (Bd.inner (Bd.an b c))).length = Bd.inner (Bd.an b c) := by rw [List.length_map, List.take_length]
        rw [e, ← Bd.all_eq]
        walk_at "v"
        exact q
    | orr b c =>
      show vSeq _ _ ⟨_, _, _, _, _⟩ [.fz (.tup [.str "or", bD b, bD c]), .no, .no]
      walk_at "v"
      show forV _ _ _ ⟨_, _, _, _, _⟩ (List.map bD (Bd.inner (Bd.orr b c))) _
      refine forAW (fun i => [.fz (bD (Bd.orr b c)), .lt (.lst (List.map bD ((Bd.orr b c) :: ((Bd.orr b c).inner.take i).flatMap Bd.all))), .no]) (by walk_at "vwk") (fun i d N hi hN => ?_) ?_
      · rw [List.getElem?_map] at hi
        cases hc : (Bd.inner (Bd.orr b c))[i]? with
        | none => rw [hc] at hi; cases hi
        | some c' =>
        rw [hc] at hi
        cases hi
        have hci : c'.deep + 1 ≤ (Bd.orr b c).deep := Bd.inner_deep (List.mem_of_getElem? hc)
        have hal2 : ((Bd.orr b c).inner.take i).flatMap Bd.all ++ c'.all = ((Bd.orr b c).inner.take (i + 1)).flatMap Bd.all := by
          rw [take_snoc' hc, List.flatMap_append]
          simp
        have hle : (((Bd.orr b c).inner.take (i + 1)).flatMap Bd.all).length + 1 ≤ (Bd.orr b c).parts := by
          have h1 := congrArg List.length (Bd.orr b c).all_eq
          rw [Bd.all_len, List.length_cons] at h1
          have h2 : (((Bd.orr b c).inner.take (i + 1)).flatMap Bd.all).length + (((Bd.orr b c).inner.drop (i + 1)).flatMap Bd.all).length = ((Bd.orr b c).inner.flatMap Bd.all).length := by
            rw [← List.length_append, ← List.flatMap_append, List.take_append_drop]
          omega
        walk_at "v"
        refine call c' _ _ hci ?_
        walk_at "v"
        rw [← List.map_append, List.cons_append, ← List.length_append, ← List.map_append, List.cons_append, hal2]
        refine ⟨by rw [List.length_map, List.length_cons]; omega, ?_⟩
        walk_at "v"
      · have e : (Bd.inner (Bd.orr b c)).take (List.map bD (Bd.inner (Bd.orr b c))).length = Bd.inner (Bd.orr b c) := by rw [List.length_map, List.take_length]
        rw [e, ← Bd.all_eq]
        walk_at "v"
        exact q
theorem ov_law_bodies (T : Top w K mg) : FnOk P w K mg base (L2.CX P w) (10) T.law_bodies.a T.law_bodies.fd ["_law_body_here"] (spV K 0 1 (m_law_bodies T 8)) := ov_law_bodies_n T 8
theorem v_law_bodies {T : Top w K mg} {b : Bd} {n : Nat} {Q : D → Prop} {E : Er → Prop} (h : b.deep ≤ n) (hn : n ≤ 7) (q : Q (.lst (List.map bD b.all))) : m_law_bodies T (n + 1) [bD b] Q E := ⟨b, rfl, h, hn, q⟩
local macro_rules | `(tactic| walk_at "vcall") => `(tactic| ((with_reducible refine' v_law_bodies (n := 7) ?e1 ?e2 ?_); (case e1 => omega); (case e2 => decide)))
/-! ### _law_degrees -/
def m_law_degrees (T : Top w K mg) : List D → M := fun ds Q _ => ∃ s : Say, ds = [sayD s] ∧ s.front.length ≤ 4 ∧ s.body.okN ∧ s.body.deep ≤ 6 ∧ (∀ x ∈ s.nm, okStr x) ∧ Q (.lst (List.map D.int s.degs))
theorem ov_law_degrees (T : Top w K mg) : FnOk P w K mg base (L2.CX P w) 11 T.law_degrees.a T.law_degrees.fd ["_law_saying_here"] (spV K 0 1 (m_law_degrees T)) := by
  refine T.law_degrees.F.okX sc_law_degrees (spV_len rfl) (fun cdv A outer s H vs Q E hr h => ?_)
  refine ⟨_, (pss_cons (ps_own (ps_set (i := 1) sc_law_degrees.nd rfl (Or.inl rfl) (pe_lst pa_nil)))
    (pss_cons (ps_forF [2] (ps_for (passes_of rfl) rfl (pi_hids (pi_seqK K rfl (pe_call (ov_law_names_in T) (hr.mono (by decide)) rfl T.law_names_in.g T.law_names_in.F.kp T.law_names_in.b .nil (passes_call (takes_of rfl rfl rfl rfl) (fun _ _ _ _ h => h)) (pa_cons (pv 0) pa_nil)))) (pg_name (i := 2) sc_law_degrees.nd rfl (Or.inr rfl)) (pss_one (ps_expr (pe_bmK K rfl PySem.F.plainAttrs_list PySem.F.slot_list_append PySem.F.type_list_append mt_append (pv 1) (pa_cons (pe_hids (pe_callB (call_lenQK K rfl) (by rfl) T.z_len (by decide +kernel) (pa_cons (pe_lcV (own := [("_law_b", 3)]) [3] rfl sc_law_degrees.nd (pi_seqK K rfl (pe_call (ov_law_bodies T) (hr.mono (by decide)) rfl T.law_bodies.g T.law_bodies.F.kp T.law_bodies.b .nil (passes_call (takes_of rfl rfl rfl rfl) (fun _ _ _ _ h => h)) (pa_cons (pe_ix (ix_QK K rfl) (pv 0) pe_int (fun _ _ => rfl)) pa_nil))) (blkOk_by (own := [("_law_b", 3)]) (N := ["_law_saying_here", "_law_found", "_law_name", "_law_b"]) (sc := defScope s_law_degrees) (by decide +kernel)) (fun _ _ _ _ _ => (pg_name (i := 3) sc_law_degrees.nd rfl (by first | exact Or.inl rfl | exact Or.inr rfl))) (fun _ _ _ _ _ => (pts_one (pt_hid (pt_cmpR (op_eqX K rfl hr) (pv 3) (pe_tup (pa_cons pe_str (pa_cons (pv 2) pa_nil))) (nomark _))))) (fun _ _ _ _ _ => (pe_hid (pv 3)))) pa_nil))) pa_nil))))))
    (pss_one (ps_ret (pv 1))))), ?_⟩
  refine fnV rfl h (fun ds Q0 E0 hl hm => ?_)
  obtain ⟨s, rfl, hfl, hb, hd6, hno, q⟩ := hm
  have hnl : s.nm.length = s.front.length := by simp [Say.nm]
  have hd : s.body.deep ≤ 7 := by omega
  have hp : s.body.parts + 1 ≤ 2 ^ 7 := Nat.le_trans s.body.parts_deep (Nat.pow_le_pow_right (by decide) (by omega))
  have hal := s.body.all_len
  show vSeq _ _ ⟨_, _, _, _, _⟩ [.fz (sayD s), .no, .no, .no]
  walk_at "v"
  refine forA (fun j => [.fz (sayD s), .ow (List.map D.int (s.degs.take j)), .no, .no]) rfl (fun j d N hj hN => ?_) ?_
  · rw [List.getElem?_map] at hj
    cases hf : s.nm[j]? with
    | none => rw [hf] at hj; cases hj
    | some x =>
    rw [hf] at hj
    cases hj
    have hx2 : okStr x := hno x (List.mem_of_getElem? hf)
    have htl : (s.degs.take j).length ≤ 4 := by rw [List.length_take]; have := s.degs_len; omega
    have hdx : s.degs[j]? = some ((s.body.often x : Nat) : Int) := by unfold Say.degs; rw [List.getElem?_map, hf]; rfl
    have e := take_snoc' hdx
    walk_at "v"
    refine filV_mapS _ (Bd.isNm x) bD (fun c hc Q' hQ => ?_) (fun c hc hp Q' hQ => ?_) ?_
    · obtain ⟨h1, h2⟩ := Bd.all_sub hc
      walk_at "v"
      refine eqM_pl (n := c.deep) (m := 2) (Bd.pl fun y hy => hb y (h1 y hy)) (fun d hd => ?_) (by omega) (by decide) (fun r hr => ?_)
      · rcases List.mem_cons.mp hd with rfl | hd
        · exact Pl.up (n := 0) (show okStr _ by unfold okStr; decide +kernel) (Nat.zero_le _)
        · rw [List.mem_singleton.mp hd]
          exact hx2
      · walk_at "v"
        have e : r = c.isNm x := by
          rw [Bool.eq_iff_iff, hr, Bd.isNm_iff]
        rw [e]
        exact hQ
    · walk_at "v"
      exact hQ
    · walk_at "v"
      rw [List.length_map, Bd.often_all]
      rw [e, List.map_append]
      rfl
  · have e : s.degs.take (List.map D.str s.nm).length = s.degs := List.take_of_length_le (by rw [List.length_map, s.degs_len]; omega)
    rw [e]
    walk_at "v"
    exact q
theorem v_law_degrees0 {T : Top w K mg} {s : Say} {Q : D → Prop} {E : Er → Prop} (h1 : s.front.length ≤ 4) (h2 : s.body.okN) (h3 : s.body.deep ≤ 6) (h4 : ∀ x ∈ s.nm, okStr x) (q : Q (.lst (List.map D.int s.degs))) : m_law_degrees T [sayD s] Q E := ⟨s, rfl, h1, h2, h3, h4, q⟩
theorem v_law_degrees {T : Top w K mg} {s : Say} {Q : D → Prop} {E : Er → Prop} (h : SayOk 4 4 s) (q : Q (.lst (List.map D.int s.degs))) : m_law_degrees T [sayD s] Q E := ⟨s, rfl, h.len.2, h.okN, h.deep, fun x hx => by
  obtain ⟨p, hp, rfl⟩ := List.mem_map.mp hx
  exact (h.nm p hp).ok, q⟩
local macro_rules | `(tactic| walk_at "vcall") => `(tactic| ((with_reducible refine' v_law_degrees ?e1 ?_); (case e1 => assumption)))
/-! ### _law_good -/
def prD (p : Str × Str) : D := .tup [.str p.1, .str p.2]
def FrOk (f : List (Str × Str)) : Prop := (1 ≤ f.length ∧ f.length ≤ 4) ∧ (∀ p ∈ f, p.1 ∈ ([("all" : Str), "some"] : List Str) ∧ NmOk p.2) ∧ (f.map (·.2)).Nodup
/-- a front and a thing -/
def fbD (f : List (Str × Str)) (d : D) : D := .tup [.tup (f.map prD), d]
def IsSay (f : List (Str × Str)) (d : D) : Prop := ∃ s : Say, SayOk 4 4 s ∧ fbD f d = sayD s
theorem isSay_iff {f : List (Str × Str)} {d : D} : IsSay f d ↔ FrOk f ∧ ∃ b, d = bD b ∧ b.deep ≤ 6 ∧ (∀ x ∈ b.names, x ∈ f.map (·.2)) ∧ b.parts ≤ 24 ∧ ∀ x ∈ f.map (·.2), b.often x ≤ 4 := by
  constructor
  · rintro ⟨⟨g, b⟩, h, e⟩
    simp only [fbD, sayD, D.tup.injEq, List.cons.injEq, and_true] at e
    obtain ⟨e1, rfl⟩ := e
    have ef : f = g.map fun p => (wordS p.1, p.2) := by
      have := congrArg (List.map fun d => match d with | D.tup [.str x, .str y] => (x, y) | _ => (Str.empty, Str.empty)) e1
      rw [List.map_map, List.map_map] at this
      simpa [Function.comp_def, prD] using this
    have en : f.map (·.2) = g.map (·.2) := by rw [ef, List.map_map]; rfl
    have hl : f.length = g.length := by rw [ef, List.length_map]
    refine ⟨⟨by rw [hl]; exact h.len, fun p hp => ?_, by rw [en]; exact h.nd⟩, b, rfl, h.deep, by rw [en]; exact h.nms, h.parts, by rw [en]; exact h.oft⟩
    rw [ef] at hp
    obtain ⟨q, hq, rfl⟩ := List.mem_map.mp hp
    refine ⟨?_, h.nm q hq⟩
    cases q.1 <;> simp [wordS]
  · rintro ⟨⟨h1, h2, h3⟩, b, rfl, h4, h5, h6, h7⟩
    refine ⟨⟨f.map fun p => (decide (p.1 = ("all" : Str)), p.2), b⟩, ⟨by simpa using h1, fun p hp => ?_, ?_, h6, h4, ?_, ?_⟩, ?_⟩
    · obtain ⟨q, hq, rfl⟩ := List.mem_map.mp hp
      exact (h2 q hq).2
    · show ((f.map fun p => (decide (p.1 = ("all" : Str)), p.2)).map (·.2)).Nodup
      rw [List.map_map]
      exact h3
    · show ∀ x ∈ b.names, x ∈ (f.map fun p => (decide (p.1 = ("all" : Str)), p.2)).map (·.2)
      rw [List.map_map]
      exact h5
    · show ∀ x ∈ (f.map fun p => (decide (p.1 = ("all" : Str)), p.2)).map (·.2), b.often x ≤ 4
      rw [List.map_map]
      exact h7
    · simp only [fbD, sayD, D.tup.injEq, List.cons.injEq, and_true]
      rw [List.map_map]
      refine List.map_congr_left fun p hp => ?_
      have := (h2 p hp).1
      simp only [Function.comp_def, prD]
      by_cases e : p.1 = ("all" : Str)
      · simp [wordS, e]
      · have e2 : p.1 = ("some" : Str) := by simpa [e] using this
        simp [wordS, e2]
theorem th_bD : ∀ b : Bd, Th b.deep (bD b)
  | .nm x => ⟨by simp, fun d hd => by simp at hd; rcases hd with rfl | rfl <;> exact True.intro⟩
  | .nt b => ⟨by simp, fun d hd => by
    simp at hd
    rcases hd with rfl | rfl
    · cases b.deep <;> exact True.intro
    · exact th_bD b⟩
  | .an b c => ⟨by simp, fun d hd => by
    simp at hd
    rcases hd with rfl | rfl | rfl
    · cases max b.deep c.deep <;> exact True.intro
    · exact (th_bD b).up (Nat.le_max_left _ _)
    · exact (th_bD c).up (Nat.le_max_right _ _)⟩
  | .orr b c => ⟨by simp, fun d hd => by
    simp at hd
    rcases hd with rfl | rfl | rfl
    · cases max b.deep c.deep <;> exact True.intro
    · exact (th_bD b).up (Nat.le_max_left _ _)
    · exact (th_bD c).up (Nat.le_max_right _ _)⟩

theorem inD_blsF : ∀ bs : List Bool, inD (.bl false) (bs.map D.bl) = !(bs.all id)
  | [] => rfl
  | b :: bs => by
    have ih := inD_blsF bs
    unfold inD at ih ⊢
    cases b
    · rfl
    · show inV _ (_ :: List.map vOf (List.map D.bl bs)) = _
      rw [List.all_cons]
      unfold inV at ih ⊢
      simpa [vOf, show eqV (V.bl true) (V.bl false) = false by decide] using ih
theorem inM_blsF {bs : List Bool} {Q : D → Prop} {E : Er → Prop} (q : Q (.bl (!bs.all id))) : inM false (.bl false) (.lst (List.map D.bl bs)) Q E := by
  refine ⟨⟨rfl, ?_⟩, ?_⟩
  · rw [List.all_map]
    exact List.all_eq_true.mpr fun _ _ => rfl
  · show Q (.bl (false != inD (.bl false) (bs.map D.bl)))
    rw [inD_blsF]
    cases h : bs.all id <;> (rw [h] at q; exact q)
def sayF (f : List (Str × Str)) (b : Bd) : Say := ⟨f.map fun p => (decide (p.1 = ("all" : Str)), p.2), b⟩
theorem sayF_nm {f : List (Str × Str)} {b : Bd} : (sayF f b).nm = f.map (·.2) := by
  show (f.map fun p => (decide (p.1 = ("all" : Str)), p.2)).map (·.2) = _
  rw [List.map_map]
  rfl
theorem sayF_degs {f : List (Str × Str)} {b : Bd} : (sayF f b).degs = (f.map (·.2)).map fun x => ((b.often x : Nat) : Int) := by
  unfold Say.degs
  rw [sayF_nm]
  rfl
theorem fb_say {f : List (Str × Str)} {b : Bd} (h : ∀ p ∈ f, p.1 ∈ ([("all" : Str), "some"] : List Str)) : fbD f (bD b) = sayD (sayF f b) := by
  simp only [fbD, sayD, sayF, D.tup.injEq, List.cons.injEq, and_true]
  rw [List.map_map]
  refine List.map_congr_left fun p hp => ?_
  have := h p hp
  simp only [Function.comp_def, prD]
  by_cases e : p.1 = ("all" : Str)
  · simp [wordS, e]
  · have e2 : p.1 = ("some" : Str) := by simpa [e] using this
    simp [wordS, e2]
def m_law_good (T : Top w K mg) : List D → M := fun ds Q _ => ∃ (f : List (Str × Str)) (d : D) (m : Nat), ds = [fbD f d] ∧ f.length ≤ 4 ∧ (∀ p ∈ f, p.1.length ≤ 8 ∧ p.2.length ≤ 8) ∧ Th m d ∧ ∀ r : Bool, (r = true ↔ IsSay f d) → Q (.bl r)
theorem ov_law_good (T : Top w K mg) : FnOk P w K mg base (L2.CX P w) 12 T.law_good.a T.law_good.fd ["_law_saying_here"] (spV K 0 1 (m_law_good T)) := by
  refine T.law_good.F.okX sc_law_good (spV_len rfl) (fun cdv A outer s H vs Q E hr h => ?_)
  refine ⟨_, (pss_cons (ps_set (i := 1) sc_law_good.nd rfl (Or.inl rfl) (pe_call (ov_law_names_in T) (hr.mono (by decide)) rfl T.law_names_in.g T.law_names_in.F.kp T.law_names_in.b .nil (passes_call (takes_of rfl rfl rfl rfl) (fun _ _ _ _ h => h)) (pa_cons (pv 0) pa_nil)))
    (pss_cons (ps_if (PW.pt (pw_or (pt_not (pt_chain op_le op_le pe_int (pe_callB (call_lenQK K rfl) (by rfl) T.z_len (by decide +kernel) (pa_cons (pv 1) pa_nil)) pe_int)) (pw_or1 (pt_cmpR op_lt (pe_lenSS K rfl rfl (by rfl) T.z_len (by rfl) T.z_set (pv 1)) (pe_callB (call_lenQK K rfl) (by rfl) T.z_len (by decide +kernel) (pa_cons (pv 1) pa_nil)) (nomark _))))) (pss_one (ps_ret pe_bl)) pss_nil)
    (pss_cons (ps_forF [2, 3, 4] (ps_for (passes_of rfl) rfl (pi_hids (pi_seqK K rfl (pe_ix (ix_QK K rfl) (pv 0) pe_int (fun _ _ => rfl)))) (pg_sqsK (n := 2) K rfl rfl (pgs_cons (pg_name (i := 2) sc_law_good.nd rfl (Or.inl rfl)) (pgs_cons (pg_name (i := 3) sc_law_good.nd rfl (Or.inl rfl)) pgs_nil))) (pss_cons (ps_setLcV (i := 4) (own := [("_law_sign", 5)]) [5] rfl sc_law_good.nd rfl rfl (sw_true rfl rfl rfl (by decide +kernel)) (pi_str (pv 3)) (blkOk_by (own := [("_law_sign", 5)]) (N := ["_law_saying_here", "_law_names", "_law_word", "_law_name", "_law_letters", "_law_sign"]) (sc := defScope s_law_good) (by decide +kernel)) (fun _ _ _ _ _ => (pg_name (i := 5) sc_law_good.nd rfl (by first | exact Or.inl rfl | exact Or.inr rfl))) (fun _ _ _ _ _ => pts_nil) (fun _ _ _ _ _ => (pe_hid (pe_cmpR op_inT (pv 5) pe_str (by rfl)))))
    (pss_one (ps_if (PW.pt (pw_or (pt_cmpR (op_notInQK K rfl) (pv 2) (pe_lst (pa_cons pe_str (pa_cons pe_str pa_nil))) (by rfl)) (pw_or (pt_cmpR (op_inQK K rfl) (pv 3) (pe_lst (pa_cons pe_str (pa_cons pe_str pa_nil))) (by rfl)) (pw_or (pt_not (pt_chain op_le op_le pe_int (pe_callB call_lenT (by rfl) T.z_len (by decide +kernel) (pa_cons (pv 3) pa_nil)) pe_int)) (pw_or1 (pt_cmpR (op_inQK K rfl) pe_bl (pv 4) (by rfl))))))) (pss_one (ps_ret pe_bl)) pss_nil)))))
    (pss_cons (ps_if (pt_not (pt_val (pe_call (ov_law_good_body T) (hr.mono (by decide)) rfl T.law_good_body.g T.law_good_body.F.kp T.law_good_body.b .nil (passes_call (takes_of rfl rfl rfl rfl) (fun _ _ _ _ h => h)) (pa_cons (pe_ix (ix_QK K rfl) (pv 0) pe_int (fun _ _ => rfl)) (pa_cons (pv 1) (pa_cons pe_int pa_nil)))))) (pss_one (ps_ret pe_bl)) pss_nil)
    (pss_one (ps_ret (pe_and (pe_cmpR op_lt (pe_callB (call_lenQK K rfl) (by rfl) T.z_len (by decide +kernel) (pa_cons (pe_call (ov_law_bodies T) (hr.mono (by decide)) rfl T.law_bodies.g T.law_bodies.F.kp T.law_bodies.b .nil (passes_call (takes_of rfl rfl rfl rfl) (fun _ _ _ _ h => h)) (pa_cons (pe_ix (ix_QK K rfl) (pv 0) pe_int (fun _ _ => rfl)) pa_nil)) pa_nil)) pe_int (nomark _)) (pe_one (pe_cmpR op_lt (pe_callB (cr_maxX K rfl rfl hr) (by rfl) T.z_max (by decide +kernel) (pa_cons (pe_call (ov_law_degrees T) (hr.mono (by decide)) rfl T.law_degrees.g T.law_degrees.F.kp T.law_degrees.b .nil (passes_call (takes_of rfl rfl rfl rfl) (fun _ _ _ _ h => h)) (pa_cons (pv 0) pa_nil)) pa_nil)) pe_int (nomark _)))))))))), ?_⟩
  refine fnV rfl h (fun ds Q0 E0 hl hm => ?_)
  obtain ⟨f, d, m, rfl, hf, hx, hT, q⟩ := hm
  show vSeq _ _ ⟨_, _, _, _, _⟩ [.fz (.tup [.tup (f.map prD), d]), .no, .no, .no, .no, .no]
  walk_at "v"
  refine v_law_names_inF (f := f) (by omega) ?_
  have hnl : (f.map (·.2)).length = f.length := List.length_map ..
  have no : ¬ IsSay f d → Q0 (.bl false) := fun h => q false ⟨fun z => (nomatch z), fun z => (h z).elim⟩
  walk_at "v"
  · rename_i h1 h2
    rw [List.length_map, hnl] at h2
    omega
  · rename_i h1 h2 h3
    refine no fun h => ?_
    have h4 := (isSay_iff.mp h).1.2.2
    rw [← disN_nd, hnl] at h4
    rw [List.length_map, hnl] at h3
    omega
  · rename_i h1 h2 h3
    rw [List.length_map, hnl] at h1 h3
    have hnd : (f.map (·.2)).Nodup := by
      have h4 := disN_le (f.map (·.2))
      rw [← disN_nd, hnl]
      rw [hnl] at h4
      omega
    refine forP (fun i ρ => ρ = [.fz (.tup [.tup (f.map prD), d]), .fz (.lst (List.map D.str (f.map (·.2)))), .no, .no, .no, .no] ∧ ∀ p ∈ f.take i, p.1 ∈ ([("all" : Str), "some"] : List Str) ∧ NmOk p.2) ⟨rfl, fun p hp => (by simp at hp)⟩ (fun i d' ρ N hi hP hN => ?_) (fun ρ hP => ?_)
    · obtain ⟨rfl, hP⟩ := hP
      rw [List.getElem?_map] at hi
      cases hc : f[i]? with
      | none => rw [hc] at hi; cases hi
      | some p =>
      rw [hc] at hi
      cases hi
      have hpm := List.mem_of_getElem? hc
      have hpl := (hx p hpm).2
      have hl' : (tl p.2).length ≤ 1000 := by rw [← tl_len]; omega
      show turnV _ (.tup [.str p.1, .str p.2]) _ _
      walk_at "v"
      refine mapV_mapB _ (fun c => decide (c ∈ tl LETS)) (fun c hc Q' hQ => ?_) ?_
      · walk_at "v"
        exact hQ
      · walk_at "v"
        · rename_i e1
          exact no fun h => e1 ((isSay_iff.mp h).1.2.1 p hpm).1
        · rename_i e1 e2
          refine no fun h => ?_
          have h5 := ((isSay_iff.mp h).1.2.1 p hpm).2
          rcases List.mem_cons.mp e2 with e | e
          · exact absurd e h5.2.2.2.1
          · exact absurd (List.mem_singleton.mp e) h5.2.2.2.2
        · rename_i e1 e2 e3 e4
          refine no fun h => e4 ?_
          have := ((isSay_iff.mp h).1.2.1 p hpm).2.2.1
          omega
        · rename_i e1 e2 e3 e4
          refine inM_blsF ?_
          by_cases hal : ∀ c ∈ tl p.2, c ∈ tl LETS
          · have ea : ((tl p.2).map fun c => decide (c ∈ tl LETS)).all id = true := by
              rw [List.all_map]
              exact List.all_eq_true.mpr fun c hc => decide_eq_true (hal c hc)
            rw [ea]
            walk_at "v"
            refine useP hN (by walk_at "vwk") ⟨rfl, fun p' hp' => ?_⟩
            rw [take_snoc' hc] at hp'
            rcases List.mem_append.mp hp' with hp' | hp'
            · exact hP p' hp'
            · rw [List.mem_singleton.mp hp']
              exact ⟨e1, by omega, by omega, fun c hc => mem_LETS.mp (hal c hc), fun z => e2 (by rw [z]; decide), fun z => e2 (by rw [z]; decide)⟩
          · have ea : ((tl p.2).map fun c => decide (c ∈ tl LETS)).all id = false := by
              rw [Bool.eq_false_iff]
              intro z
              rw [List.all_map] at z
              exact hal fun c hc => of_decide_eq_true (List.all_eq_true.mp z c hc)
            rw [ea]
            walk_at "v"
            refine no fun h => hal fun c hc => mem_LETS.mpr (((isSay_iff.mp h).1.2.1 p hpm).2.2.2.1 c hc)
        · rename_i e1 e2 e3
          refine no fun h => e3 ?_
          have := ((isSay_iff.mp h).1.2.1 p hpm).2.1
          omega
    · obtain ⟨rfl, hP⟩ := hP
      rw [List.length_map, List.take_length] at hP
      walk_at "v"
      refine v_law_good_body hT (by omega) fun r hr => ?_
      by_cases hB : BdIn (f.map (·.2)) 6 d
      · rw [hr.mpr hB]
        obtain ⟨b, rfl, g1, g2⟩ := hB
        have hno : ∀ x ∈ f.map (·.2), okStr x := fun x hx => by
          obtain ⟨p, hp, rfl⟩ := List.mem_map.mp hx
          exact (hP p hp).2.ok
        have hal := b.all_len
        have hfr : FrOk f := ⟨by omega, hP, hnd⟩
        have key : IsSay f (bD b) ↔ b.parts ≤ 24 ∧ ∀ x ∈ f.map (·.2), b.often x ≤ 4 := by
          rw [isSay_iff]
          constructor
          · rintro ⟨_, b', e, _, _, h6, h7⟩
            rw [bD_inj e]
            exact ⟨h6, h7⟩
          · exact fun h => ⟨hfr, b, rfl, g1, g2, h.1, h.2⟩
        have es : D.tup [D.tup (List.map prD f), bD b] = sayD (sayF f b) := fb_say fun p hp => (hP p hp).1
        walk_at "v"
        · rename_i h5
          rw [List.length_map] at h5
          rw [es]
          refine v_law_degrees0 (by show (f.map _).length ≤ 4; rw [List.length_map]; exact hf) (fun x hx => hno x (g2 x hx)) g1 (by rw [sayF_nm]; exact hno) ?_
          walk_at "v"
          refine ⟨by rw [sayF_degs, List.length_map, hnl]; omega, fun m hm1 hm2 => ?_⟩
          walk_at "v"
          refine q _ ?_
          rw [key, decide_eq_true_eq]
          rw [sayF_degs] at hm1 hm2
          constructor
          · intro h
            refine ⟨by omega, fun x hx => ?_⟩
            have := hm2 _ (List.mem_map.mpr ⟨x, hx, rfl⟩)
            omega
          · rintro ⟨_, h7⟩
            obtain ⟨x, hx, e⟩ := List.mem_map.mp hm1
            have := h7 x hx
            omega
        · rename_i h5
          rw [List.length_map] at h5
          refine no fun h => ?_
          have := (key.mp h).1
          omega
      · rw [show r = false by cases r with | false => rfl | true => exact absurd (hr.mp rfl) hB]
        walk_at "v"
        refine no fun h => hB ?_
        obtain ⟨_, b, rfl, h4, h5, _⟩ := isSay_iff.mp h
        exact ⟨b, rfl, h4, h5⟩
  · rename_i h1
    rw [List.length_map, hnl] at h1
    refine no fun h => h1 ?_
    have := (isSay_iff.mp h).1.1.1
    omega
theorem v_law_good {T : Top w K mg} {f : List (Str × Str)} {d : D} {m : Nat} {Q : D → Prop} {E : Er → Prop} (hf : f.length ≤ 4) (hx : ∀ p ∈ f, p.1.length ≤ 8 ∧ p.2.length ≤ 8) (hT : Th m d) (q : ∀ r : Bool, (r = true ↔ IsSay f d) → Q (.bl r)) : m_law_good T [fbD f d] Q E := ⟨f, d, m, rfl, hf, hx, hT, q⟩
/-! ### _law_bent_inner -/
theorem at_zero {d : D} {ds : List D} : atI (d :: ds) 0 = some d := atI_nat (xs := d :: ds) (j := 0) rfl
theorem th_str {n : Nat} {x : Str} : Th n (.str x) := by cases n <;> exact True.intro
theorem th_cons {n : Nat} {d : D} {ds : List D} (h : Th n d) (g : ∀ e ∈ ds, Th n e) : ∀ e ∈ d :: ds, Th n e := fun e he => (List.mem_cons.mp he).elim (fun z => z ▸ h) (g e)
theorem th_nil {n : Nat} : ∀ e ∈ ([] : List D), Th n e := fun e he => nomatch he
theorem bD_form (b : Bd) : ∃ w es, bD b = .tup (.str w :: es) ∧ (1 ≤ es.length ∧ es.length ≤ 2) ∧ (∀ d ∈ es, Th b.deep d) ∧ (w ∈ [("and" : Str), "or"] → ∃ b1 c1 : Bd, es = [bD b1, bD c1] ∧ b1.deep + 1 ≤ b.deep ∧ c1.deep + 1 ≤ b.deep ∧ (∀ x ∈ b1.names, x ∈ b.names) ∧ ∀ x ∈ c1.names, x ∈ b.names) := by
  have hth := th_bD b
  have n1 : ¬ ("name" : Str) ∈ [("and" : Str), "or"] := by decide
  have n2 : ¬ ("not" : Str) ∈ [("and" : Str), "or"] := by decide
  cases b with
  | nm x => exact ⟨_, _, rfl, ⟨by simp, by simp⟩, fun d hd => (hth.2 d (List.mem_cons_of_mem _ hd)).up (Nat.le_succ _), fun z => absurd z n1⟩
  | nt b => exact ⟨_, _, rfl, ⟨by simp, by simp⟩, fun d hd => (hth.2 d (List.mem_cons_of_mem _ hd)).up (Nat.le_succ _), fun z => absurd z n2⟩
  | an b c => exact ⟨_, _, rfl, ⟨by simp, by simp⟩, fun d hd => (hth.2 d (List.mem_cons_of_mem _ hd)).up (Nat.le_succ _), fun _ => ⟨b, c, rfl, Nat.succ_le_succ (Nat.le_max_left _ _), Nat.succ_le_succ (Nat.le_max_right _ _), fun x hx => List.mem_append_left _ hx, fun x hx => List.mem_append_right _ hx⟩⟩
  | orr b c => exact ⟨_, _, rfl, ⟨by simp, by simp⟩, fun d hd => (hth.2 d (List.mem_cons_of_mem _ hd)).up (Nat.le_succ _), fun _ => ⟨b, c, rfl, Nat.succ_le_succ (Nat.le_max_left _ _), Nat.succ_le_succ (Nat.le_max_right _ _), fun x hx => List.mem_append_left _ hx, fun x hx => List.mem_append_right _ hx⟩⟩
def m_law_bent_inner (T : Top w K mg) : Nat → List D → M
  | 0 => fun _ _ _ => False
  | n + 1 => fun ds Q _ => ∃ (b : Bd) (x : Str) (names : List Str), ds = [.drw, bD b, .lst ((x :: names).map D.str)] ∧ b.deep ≤ n ∧ n ≤ 7 ∧ b.okN ∧ names.length ≤ 1000 ∧ ∀ ds', Th (b.deep + 3) (.tup ds') → Q (.tup ds')
theorem ov_law_bent_inner_n (T : Top w K mg) : ∀ n : Nat, FnOk P w K mg base (L2.CX P w) (3 + n + 1) T.law_bent_inner.a T.law_bent_inner.fd ["_law_draw", "_law_body_here", "_law_names"] (spV K 0 3 (m_law_bent_inner T n))
  | 0 => by
    refine T.law_bent_inner.F.okX sc_law_bent_inner (spV_len rfl) (fun cdv A outer s H vs Q E hr h => ?_)
    obtain ⟨ds, _, _, Q0, E0, hm, _⟩ := h
    exact hm.elim
  | n + 1 => by
    have ih := ov_law_bent_inner_n T n
    refine T.law_bent_inner.F.okX sc_law_bent_inner (spV_len rfl) (fun cdv A outer s H vs Q E hr h => ?_)
    refine ⟨_, (pss_cons (ps_set (i := 3) sc_law_bent_inner.nd rfl (Or.inl rfl) (pe_call (ov_law_pick T) (hr.mono (by omega)) rfl T.law_pick.g T.law_pick.F.kp T.law_pick.b .nil (passes_call (takes_of rfl rfl rfl rfl) (fun _ _ _ _ h => h)) (pa_cons (pv 0) (pa_cons pe_int pa_nil))))
    (pss_cons (ps_if (PW.pt (pw_and (pt_cmpR (op_neX K rfl hr) (pv 1) (pe_tup pa_nil) (nomark _)) (pw_and (pt_cmpR (op_inQK K rfl) (pe_ix (ix_QK K rfl) (pv 1) pe_int (fun _ _ => rfl)) (pe_lst (pa_cons pe_str (pa_cons pe_str pa_nil))) (by rfl)) (pw_and1 (pt_cmpR op_lt (pv 3) pe_int (nomark _)))))) (pss_cons (ps_set (i := 4) sc_law_bent_inner.nd rfl (Or.inl rfl) (pe_op (op_addX K rfl) pe_int (pe_op op_mod (pv 3) pe_int)))
    (pss_one (ps_if (PW.pt (pw_and (pt_cmpR (op_eqX K rfl hr) (pe_callB (call_lenQK K rfl) (by rfl) T.z_len (by decide +kernel) (pa_cons (pv 1) pa_nil)) pe_int (nomark _)) (pw_and1 (pt_val (pe_isi "tuple" (pe_callB (call_isiK2 K rfl) (by rfl) T.z_isinstance (by decide +kernel) (pa_cons (pe_ix (ix_QK K rfl) (pv 1) (pv 4) (fun _ _ => rfl)) (pa_cons (pe_bltn (v := .ty "tuple") (u := .type "tuple") (by rfl) T.z_tuple (by decide +kernel) rfl) pa_nil)))))))) (pss_one (ps_ret (pe_op (op_addX K rfl) (pe_op (op_addX K rfl) (pe_slice (sl_Q K rfl) (pv 1) po_none (po_some (pv 4))) (pe_tup (pa_cons (pe_call ih hr rfl T.law_bent_inner.g T.law_bent_inner.F.kp T.law_bent_inner.b .nil (passes_call (takes_of rfl rfl rfl rfl) (fun _ _ _ _ h => h)) (pa_cons (pv 0) (pa_cons (pe_ix (ix_QK K rfl) (pv 1) (pv 4) (fun _ _ => rfl)) (pa_cons (pv 2) pa_nil)))) pa_nil))) (pe_slice (sl_Q K rfl) (pv 1) (po_some (pe_op (op_addX K rfl) (pv 4) pe_int)) po_none)))) pss_nil))) pss_nil)
    (pss_cons (ps_if (pt_cmpR (op_eqX K rfl hr) (pv 3) pe_int (nomark _)) (pss_one (ps_ret (pe_op (op_addX K rfl) (pv 1) (pe_tup (pa_cons (pe_tup (pa_cons pe_str (pa_cons (pe_ix (ix_QK K rfl) (pv 2) pe_int (fun _ _ => rfl)) pa_nil))) pa_nil))))) pss_nil)
    (pss_cons (ps_if (pt_cmpR (op_eqX K rfl hr) (pv 3) pe_int (nomark _)) (pss_one (ps_ret (pe_slice (sl_Q K rfl) (pv 1) po_none (po_some (pe_un un_neg pe_int))))) pss_nil)
    (pss_cons (ps_if (pt_cmpR (op_eqX K rfl hr) (pv 3) pe_int (nomark _)) (pss_one (ps_ret (pe_op (op_addX K rfl) (pe_tup (pa_cons (pe_call (ov_law_one T) (hr.mono (by omega)) rfl T.law_one.g T.law_one.F.kp T.law_one.b .nil (passes_call (takes_of rfl rfl rfl rfl) (fun _ _ _ _ h => h)) (pa_cons (pv 0) (pa_cons (pe_lst (pa_cons pe_str (pa_cons pe_str (pa_cons pe_str (pa_cons pe_str pa_nil))))) pa_nil))) pa_nil)) (pe_slice (sl_Q K rfl) (pv 1) (po_some pe_int) po_none)))) pss_nil)
    (pss_cons (ps_if (pt_cmpR (op_eqX K rfl hr) (pv 3) pe_int (nomark _)) (pss_one (ps_ret (pe_tup (pa_cons pe_str (pa_cons (pe_tup (pa_cons pe_str (pa_cons (pv 1) (pa_cons (pv 1) pa_nil)))) (pa_cons (pe_tup (pa_cons pe_str (pa_cons (pv 1) (pa_cons (pe_tup (pa_cons pe_str (pa_cons (pv 1) pa_nil))) pa_nil)))) pa_nil)))))) pss_nil)
    (pss_one (ps_ret (pe_call (ov_law_one T) (hr.mono (by omega)) rfl T.law_one.g T.law_one.F.kp T.law_one.b .nil (passes_call (takes_of rfl rfl rfl rfl) (fun _ _ _ _ h => h)) (pa_cons (pv 0) (pa_cons (pe_lst (pa_cons (pe_tup (pa_cons pe_str (pa_cons pe_str pa_nil))) (pa_cons (pe_tup pa_nil) (pa_cons (pe_tup (pa_cons pe_str (pa_cons (pe_tup (pa_cons pe_str (pa_cons (pv 1) pa_nil))) pa_nil))) (pa_cons (pe_tup (pa_cons pe_str (pa_cons (pe_tup (pa_cons pe_str (pa_cons (pe_ix (ix_QK K rfl) (pv 2) pe_int (fun _ _ => rfl)) pa_nil))) pa_nil))) pa_nil))))) pa_nil))))))))))), ?_⟩
    refine fnV rfl h (fun ds Q0 E0 hl hm => ?_)
    obtain ⟨b, x, names, rfl, hd, hn7, hbk, hn, q⟩ := hm
    show vSeq _ _ ⟨_, _, _, _, _⟩ [.fz .drw, .fz (bD b), .fz (.lst ((x :: names).map D.str)), .no, .no]
    have ⟨w, es, hb, hel, hes, hao⟩ := bD_form b
    have hpl := Bd.pl (b := b) fun y hy => hbk y hy
    rw [hb] at hpl ⊢
    have hB : ∀ m, b.deep ≤ m → Th m (.tup (.str w :: es)) := fun m hm => (show Th m (bD b) from (th_bD b).up hm) |> fun z => by rw [hb] at z; exact z
    have hes2 : ∀ d ∈ es, Th (b.deep + 2) d := fun d hd => (hes d hd).up (by omega)
    have nxt {k : Nat} {l : List D} (h1 : l.length ≤ 10) (h2 : ∀ d ∈ l, Th k d) : Th (k + 1) (.tup l) := ⟨by omega, h2⟩
    have fin : ∀ l : List D, l.length ≤ 5 → (∀ d ∈ l, Th (b.deep + 2) d) → Q0 (.tup l) := fun l h1 h2 => q l ⟨by omega, h2⟩
    walk_at "v"
    rename_i r' hr0 hr8
    refine eqM_pl (n := b.deep) (m := 1) hpl (fun d hd => by cases hd) (by omega) (by decide) fun r hr => ?_
    rw [show r = false by cases r with | false => rfl | true => exact absurd (hr.mp rfl) (by simp)]
    walk_at "v"
    · rename_i hw h4 h3
      obtain ⟨b1, c1, e, hb1, hc1, n1, n2⟩ := hao hw
      obtain ⟨n, rfl⟩ : ∃ k, n = k + 1 := ⟨n - 1, by omega⟩
      subst e
      rcases (show r' % 2 = 0 ∨ r' % 2 = 1 by omega) with z | z
      · rw [z]
        have ⟨w1, es1, g1, _⟩ := bD_form b1
        refine ⟨bD b1, rfl, ?_⟩
        rw [g1]
        walk_at "v"
        refine ⟨_, rfl, ?_⟩
        walk_at "v"
        refine ⟨b1, x, names, by rw [g1], by omega, by omega, fun y hy => hbk y (n1 y hy), hn, fun ds' hds' => ?_⟩
        walk_at "v"
        refine fin [.str w, .tup ds', bD c1] (by simp) (th_cons th_str (th_cons (hds'.up (by omega)) (th_cons (hes2 _ (by simp)) th_nil)))
      · rw [z]
        have ⟨w1, es1, g1, _⟩ := bD_form c1
        refine ⟨bD c1, rfl, ?_⟩
        rw [g1]
        walk_at "v"
        refine ⟨_, rfl, ?_⟩
        walk_at "v"
        refine ⟨c1, x, names, by rw [g1], by omega, by omega, fun y hy => hbk y (n2 y hy), hn, fun ds' hds' => ?_⟩
        walk_at "v"
        refine fin [.str w, bD b1, .tup ds'] (by simp) (th_cons th_str (th_cons (hes2 _ (by simp)) (th_cons (hds'.up (by omega)) th_nil)))
    · rename_i hw h4 h3
      obtain ⟨b1, c1, e, _⟩ := hao hw
      subst e
      exact absurd rfl h3
    all_goals first
      | exact fin _ (by simp) (th_cons th_str (th_cons (nxt (by simp) (th_cons th_str (th_cons (hB _ (by omega)) (th_cons (hB _ (by omega)) th_nil)))) (th_cons (nxt (by simp) (th_cons th_str (th_cons (hB _ (by omega)) (th_cons (nxt (k := b.deep) (by simp) (th_cons th_str (th_cons (hB _ (by omega)) th_nil))) th_nil)))) th_nil)))
      | (refine v_law_one ⟨by simp, by simp⟩ fun d hd => ?_
         have hs : ∃ y : Str, d = .str y := by
           simp only [List.mem_cons, List.not_mem_nil, or_false] at hd
           rcases hd with rfl | rfl | rfl | rfl <;> exact ⟨_, rfl⟩
         obtain ⟨y, rfl⟩ := hs
         walk_at "v"
         rw [cut1_cons]
         refine ⟨by simp only [List.length_cons, List.length_nil]; omega, ?_⟩
         exact fin (.str y :: es) (by simp only [List.length_cons]; omega) (th_cons th_str hes2))
      | (refine ⟨.str x, at_zero, ?_⟩
         walk_at "v"
         first
           | (refine fin _ (by simp only [List.length_append, List.length_cons, List.length_nil]; omega) fun d hd => ?_
              rcases List.mem_append.mp hd with hd | hd
              · exact (th_cons th_str hes2) d hd
              · rw [List.mem_singleton.mp hd]
                exact nxt (by simp) (th_cons th_str (th_cons th_str th_nil)))
           | (refine v_law_one ⟨by simp, by simp⟩ fun d hd => ?_
              simp only [List.mem_cons, List.not_mem_nil, or_false] at hd
              rcases hd with rfl | rfl | rfl | rfl
              · exact fin _ (by simp) (th_cons th_str (th_cons th_str th_nil))
              · exact fin _ (by simp) th_nil
              · exact fin _ (by simp) (th_cons th_str (th_cons (nxt (by simp) (th_cons th_str (th_cons (hB _ (by omega)) th_nil))) th_nil))
              · exact fin _ (by simp) (th_cons th_str (th_cons (nxt (by simp) (th_cons th_str (th_cons th_str th_nil))) th_nil))))
      | skip
    all_goals
      refine fin _ ?_ fun d hd => (th_cons (th_str (x := w)) hes2) d ?_
      · unfold cutD
        rw [List.length_take]
        simp only [List.length_drop, List.length_cons]
        omega
      · unfold cutD at hd
        exact List.mem_of_mem_drop (List.mem_of_mem_take hd)
theorem ov_law_bent_inner (T : Top w K mg) : FnOk P w K mg base (L2.CX P w) (12) T.law_bent_inner.a T.law_bent_inner.fd ["_law_draw", "_law_body_here", "_law_names"] (spV K 0 3 (m_law_bent_inner T 8)) := ov_law_bent_inner_n T 8
theorem v_law_bent_inner {T : Top w K mg} {b : Bd} {x : Str} {names : List Str} {Q : D → Prop} {E : Er → Prop} (hd : b.deep ≤ 6) (hk : b.okN) (hn : names.length ≤ 1000) (q : ∀ ds', Th 9 (.tup ds') → Q (.tup ds')) : m_law_bent_inner T 8 [.drw, bD b, .lst (List.map D.str (x :: names))] Q E := ⟨b, x, names, rfl, Nat.le_trans hd (by decide), by decide, hk, hn, fun ds' h => q ds' (h.up (by omega))⟩
/-! ### _law_bent_saying -/
def frF (s : Say) : List (Str × Str) := s.front.map fun p => (wordS p.1, p.2)
theorem frF_len {s : Say} : (frF s).length = s.front.length := List.length_map ..
theorem frF_eq {s : Say} : List.map frD s.front = (frF s).map prD := by
  unfold frF
  rw [List.map_map]
  rfl
def m_law_bent_saying (T : Top w K mg) : List D → M := fun ds Q _ => ∃ s : Say, ds = [.drw, sayD s] ∧ SayOk 4 4 s ∧ ∀ (f : List (Str × Str)) (d : D), f.length ≤ 4 → (∀ p ∈ f, p.1.length ≤ 8 ∧ p.2.length ≤ 8) → Th 9 d → Q (fbD f d)
theorem ov_law_bent_saying (T : Top w K mg) : FnOk P w K mg base (L2.CX P w) 13 T.law_bent_saying.a T.law_bent_saying.fd ["_law_draw", "_law_saying_here"] (spV K 0 2 (m_law_bent_saying T)) := by
  refine T.law_bent_saying.F.okX sc_law_bent_saying (spV_len rfl) (fun cdv A outer s H vs Q E hr h => ?_)
  refine ⟨_, (pss_cons (ps_par (i := 2) (j := 3) rfl sc_law_bent_saying.nd rfl rfl (by decide) rfl rfl (pa_cons (pe_ix (ix_QK K rfl) (pv 1) pe_int (fun _ _ => rfl)) (pa_cons (pe_ix (ix_QK K rfl) (pv 1) pe_int (fun _ _ => rfl)) pa_nil)) rfl)
    (pss_cons (ps_set (i := 4) sc_law_bent_saying.nd rfl (Or.inl rfl) (pe_call (ov_law_names_in T) (hr.mono (by decide)) rfl T.law_names_in.g T.law_names_in.F.kp T.law_names_in.b .nil (passes_call (takes_of rfl rfl rfl rfl) (fun _ _ _ _ h => h)) (pa_cons (pv 1) pa_nil)))
    (pss_cons (ps_set (i := 5) sc_law_bent_saying.nd rfl (Or.inl rfl) (pe_call (ov_law_pick T) (hr.mono (by decide)) rfl T.law_pick.g T.law_pick.F.kp T.law_pick.b .nil (passes_call (takes_of rfl rfl rfl rfl) (fun _ _ _ _ h => h)) (pa_cons (pv 0) (pa_cons pe_int pa_nil))))
    (pss_cons (ps_set (i := 6) sc_law_bent_saying.nd rfl (Or.inl rfl) (pe_call (ov_law_pick T) (hr.mono (by decide)) rfl T.law_pick.g T.law_pick.F.kp T.law_pick.b .nil (passes_call (takes_of rfl rfl rfl rfl) (fun _ _ _ _ h => h)) (pa_cons (pv 0) (pa_cons (pe_callB (call_lenQK K rfl) (by rfl) T.z_len (by decide +kernel) (pa_cons (pv 2) pa_nil)) pa_nil))))
    (pss_cons (ps_if (pt_cmpR (op_eqX K rfl hr) (pv 5) pe_int (nomark _)) (pss_one (ps_ret (pe_tup (pa_cons (pe_op (op_addX K rfl) (pe_op (op_addX K rfl) (pe_slice (sl_Q K rfl) (pv 2) po_none (po_some (pv 6))) (pe_tup (pa_cons (pe_tup (pa_cons (pe_call (ov_law_one T) (hr.mono (by decide)) rfl T.law_one.g T.law_one.F.kp T.law_one.b .nil (passes_call (takes_of rfl rfl rfl rfl) (fun _ _ _ _ h => h)) (pa_cons (pv 0) (pa_cons (pe_lst (pa_cons pe_str (pa_cons pe_str (pa_cons pe_str pa_nil)))) pa_nil))) (pa_cons (pe_ix (ix_QK K rfl) (pe_ix (ix_QK K rfl) (pv 2) (pv 6) (fun _ _ => rfl)) pe_int (fun _ _ => rfl)) pa_nil))) pa_nil))) (pe_slice (sl_Q K rfl) (pv 2) (po_some (pe_op (op_addX K rfl) (pv 6) pe_int)) po_none)) (pa_cons (pv 3) pa_nil))))) pss_nil)
    (pss_cons (ps_if (pt_cmpR (op_eqX K rfl hr) (pv 5) pe_int (nomark _)) (pss_cons (ps_set (i := 7) sc_law_bent_saying.nd rfl (Or.inl rfl) (pe_call (ov_law_one T) (hr.mono (by decide)) rfl T.law_one.g T.law_one.F.kp T.law_one.b .nil (passes_call (takes_of rfl rfl rfl rfl) (fun _ _ _ _ h => h)) (pa_cons (pv 0) (pa_cons (pe_lst (pa_cons pe_str (pa_cons pe_str (pa_cons pe_str (pa_cons pe_str (pa_cons (pe_ix (ix_QK K rfl) (pv 4) pe_int (fun _ _ => rfl)) pa_nil)))))) pa_nil))))
    (pss_one (ps_ret (pe_tup (pa_cons (pe_op (op_addX K rfl) (pe_op (op_addX K rfl) (pe_slice (sl_Q K rfl) (pv 2) po_none (po_some (pv 6))) (pe_tup (pa_cons (pe_tup (pa_cons (pe_ix (ix_QK K rfl) (pe_ix (ix_QK K rfl) (pv 2) (pv 6) (fun _ _ => rfl)) pe_int (fun _ _ => rfl)) (pa_cons (pv 7) pa_nil))) pa_nil))) (pe_slice (sl_Q K rfl) (pv 2) (po_some (pe_op (op_addX K rfl) (pv 6) pe_int)) po_none)) (pa_cons (pv 3) pa_nil)))))) pss_nil)
    (pss_cons (ps_if (pt_cmpR (op_eqX K rfl hr) (pv 5) pe_int (nomark _)) (pss_one (ps_ret (pe_tup (pa_cons (pe_op (op_addX K rfl) (pe_slice (sl_Q K rfl) (pv 2) po_none (po_some (pv 6))) (pe_slice (sl_Q K rfl) (pv 2) (po_some (pe_op (op_addX K rfl) (pv 6) pe_int)) po_none)) (pa_cons (pv 3) pa_nil))))) pss_nil)
    (pss_one (ps_ret (pe_tup (pa_cons (pv 2) (pa_cons (pe_call (ov_law_bent_inner T) (hr.mono (by decide)) rfl T.law_bent_inner.g T.law_bent_inner.F.kp T.law_bent_inner.b .nil (passes_call (takes_of rfl rfl rfl rfl) (fun _ _ _ _ h => h)) (pa_cons (pv 0) (pa_cons (pv 3) (pa_cons (pv 4) pa_nil)))) pa_nil)))))))))))), ?_⟩
  refine fnV rfl h (fun ds Q0 E0 hl hm => ?_)
  obtain ⟨s, rfl, hs, q⟩ := hm
  show vSeq _ _ ⟨_, _, _, _, _⟩ [.fz .drw, .fz (sayD s), .no, .no, .no, .no, .no, .no]
  walk_at "v"
  have hfl := hs.len
  obtain ⟨x, xs, hnm⟩ : ∃ x xs, s.nm = x :: xs := by
    cases e : s.nm with
    | nil => have := congrArg List.length e; unfold Say.nm at this; rw [List.length_map] at this; simp at this; rw [this] at hfl; simp at hfl
    | cons x xs => exact ⟨x, xs, rfl⟩
  have c1 : ∀ j : Nat, j < s.front.length → cutD (List.map frD s.front) none (some (j : Int)) = ((frF s).take j).map prD := fun j hj => by rw [frF_eq, cutD_toM _ _ (by rw [List.length_map, frF_len]; omega), List.map_take]
  have c2 : ∀ j : Nat, j < s.front.length → cutD (List.map frD s.front) (some ((j + 1 : Nat) : Int)) none = ((frF s).drop (j + 1)).map prD := fun j hj => by rw [frF_eq, cutD_frN _ _ (by rw [List.length_map, frF_len]; omega), List.map_drop]
  have hF : ∀ p ∈ frF s, p.1.length ≤ 8 ∧ p.2.length ≤ 8 := fun p hp => by
    obtain ⟨q, hq, rfl⟩ := List.mem_map.mp hp
    have h1 := (hs.nm q hq).2.1
    have h2 : (wordS q.1).length ≤ 8 := by cases q.1 <;> decide
    exact ⟨h2, by show q.2.length ≤ 8; omega⟩
  have ht9 : Th 9 (bD s.body) := (th_bD s.body).up (by have := hs.deep; omega)
  have mid : ∀ (j : Nat) (a b : Str), j < s.front.length → a.length ≤ 8 → b.length ≤ 8 → Q0 (.tup [.tup ((((frF s).take j).map prD ++ [D.tup [.str a, .str b]]) ++ ((frF s).drop (j + 1)).map prD), bD s.body]) := fun j a b hj ha hb => by
    have := q ((frF s).take j ++ [(a, b)] ++ (frF s).drop (j + 1)) (bD s.body) (by rw [List.length_append, List.length_append, List.length_take, List.length_drop, frF_len, List.length_singleton]; omega) (fun p hp => by
      rcases List.mem_append.mp hp with hp | hp
      · rcases List.mem_append.mp hp with hp | hp
        · exact hF p (List.mem_of_mem_take hp)
        · rw [List.mem_singleton.mp hp]
          exact ⟨ha, hb⟩
      · exact hF p (List.mem_of_mem_drop hp)) ht9
    unfold fbD at this
    rw [List.map_append, List.map_append] at this
    exact this
  refine v_law_names_in (by omega) ?_
  walk_at "v"
  · rename_i r' r0 r1 k hk0 hk1 h0
    obtain ⟨j, rfl⟩ : ∃ j : Nat, k = (j : Int) := ⟨k.toNat, by omega⟩
    have hj : j < s.front.length := by omega
    have e2 : (j : Int) + 1 = ((j + 1 : Nat) : Int) := by omega
    have hat : atI (List.map frD s.front) (j : Int) = some (frD s.front[j]) := atI_nat (xs := List.map frD s.front) (j := j) (by rw [List.getElem?_map, List.getElem?_eq_getElem hj]; rfl)
    refine v_law_one ⟨by simp, by simp⟩ fun d hd => ?_
    obtain ⟨y, rfl, hy⟩ : ∃ y : Str, d = .str y ∧ y.length ≤ 8 := by
      simp only [List.mem_cons, List.not_mem_nil, or_false] at hd
      rcases hd with rfl | rfl | rfl <;> exact ⟨_, rfl, by decide⟩
    walk_at "v"
    refine ⟨_, hat, ?_⟩
    rw [frD]
    walk_at "v"
    rw [c1 j hj]
    refine ⟨by simp only [List.length_map, List.length_take, List.length_cons, List.length_nil, frF_len]; omega, ?_⟩
    walk_at "v"
    rw [e2, c2 j hj]
    refine ⟨by simp only [List.length_append, List.length_map, List.length_take, List.length_drop, List.length_cons, List.length_nil, frF_len]; omega, ?_⟩
    walk_at "v"
    refine mid j y _ hj hy ?_
    have := (hs.nm _ (List.getElem_mem hj)).2.1
    omega
  · rename_i r' r0 r1 k hk0 hk1 h0 h1 h2 h3
    obtain ⟨j, rfl⟩ : ∃ j : Nat, k = (j : Int) := ⟨k.toNat, by omega⟩
    have hj : j < s.front.length := by omega
    have e2 : (j : Int) + 1 = ((j + 1 : Nat) : Int) := by omega
    have hat : atI (List.map frD s.front) (j : Int) = some (frD s.front[j]) := atI_nat (xs := List.map frD s.front) (j := j) (by rw [List.getElem?_map, List.getElem?_eq_getElem hj]; rfl)
    refine ⟨.str x, by rw [hnm]; exact at_zero, ?_⟩
    walk_at "v"
    refine v_law_one ⟨by simp, by simp⟩ fun d hd => ?_
    have hx : x.length ≤ 8 := by
      have : x ∈ s.nm := by rw [hnm]; exact List.mem_cons_self
      obtain ⟨p, hp, rfl⟩ := List.mem_map.mp this
      have := (hs.nm p hp).2.1
      omega
    obtain ⟨y, rfl, hy⟩ : ∃ y : Str, d = .str y ∧ y.length ≤ 8 := by
      simp only [List.mem_cons, List.not_mem_nil, or_false] at hd
      rcases hd with rfl | rfl | rfl | rfl | rfl
      · exact ⟨_, rfl, by decide⟩
      · exact ⟨_, rfl, by decide⟩
      · exact ⟨_, rfl, by decide⟩
      · exact ⟨_, rfl, by decide⟩
      · exact ⟨_, rfl, hx⟩
    walk_at "v"
    refine ⟨_, hat, ?_⟩
    rw [frD]
    walk_at "v"
    rw [c1 j hj]
    refine ⟨by simp only [List.length_map, List.length_take, List.length_cons, List.length_nil, frF_len]; omega, ?_⟩
    walk_at "v"
    rw [e2, c2 j hj]
    refine ⟨by simp only [List.length_append, List.length_map, List.length_take, List.length_drop, List.length_cons, List.length_nil, frF_len]; omega, ?_⟩
    walk_at "v"
    refine mid j _ y hj ?_ hy
    show (wordS (s.front[j]).1).length ≤ 8
    cases (s.front[j]).1 <;> decide
  · rename_i r' r0 r1 k hk0 hk1 h0 h1 h2
    obtain ⟨j, rfl⟩ : ∃ j : Nat, k = (j : Int) := ⟨k.toNat, by omega⟩
    have hj : j < s.front.length := by omega
    have e2 : (j : Int) + 1 = ((j + 1 : Nat) : Int) := by omega
    have hat : atI (List.map frD s.front) (j : Int) = some (frD s.front[j]) := atI_nat (xs := List.map frD s.front) (j := j) (by rw [List.getElem?_map, List.getElem?_eq_getElem hj]; rfl)
    rw [e2, c1 j hj, c2 j hj]
    refine ⟨by simp only [List.length_map, List.length_take, List.length_drop, frF_len]; omega, ?_⟩
    walk_at "v"
    rw [← List.map_append]
    refine q ((frF s).take j ++ (frF s).drop (j + 1)) (bD s.body) (by rw [List.length_append, List.length_take, List.length_drop, frF_len]; omega) (fun p hp => ?_) ht9
    rcases List.mem_append.mp hp with hp | hp
    · exact hF p (List.mem_of_mem_take hp)
    · exact hF p (List.mem_of_mem_drop hp)
  · have hxl : xs.length ≤ 1000 := by
      have := congrArg List.length hnm
      unfold Say.nm at this
      rw [List.length_map, List.length_cons] at this
      omega
    rw [hnm]
    refine v_law_bent_inner hs.deep hs.okN hxl fun ds' hds' => ?_
    walk_at "v"
    rw [frF_eq]
    exact q (frF s) (.tup ds') (by rw [frF_len]; omega) hF hds'
theorem v_law_bent_saying {T : Top w K mg} {s : Say} {Q : D → Prop} {E : Er → Prop} (hs : SayOk 4 4 s) (q : ∀ (f : List (Str × Str)) (d : D), f.length ≤ 4 → (∀ p ∈ f, p.1.length ≤ 8 ∧ p.2.length ≤ 8) → Th 9 d → Q (fbD f d)) : m_law_bent_saying T [.drw, sayD s] Q E := ⟨s, rfl, hs, q⟩
/-! ### _law_tried -/

/-- what a refusal brings to whom tried -/
def TrE (T : Top w K mg) (Q : VK) (E : XK) : Prop := ∀ (C dd : Addr) (wd : Str) (H' : Hp), (PySem.W.exmOne K (.ref C) (.ref T.x_LookError.C) = some true ∨ (PySem.W.exmOne K (.ref C) (.ref T.x_LookError.C) = some false ∧ PySem.W.exmOne K (.ref C) (.ref T.x_HallError.C) = some true)) → XfC K C → PySem.W.findIn K (.ref C) "word" = some none → H' dd = some (.xd [("word", .str wd)]) →
  (∀ p, H' p = none → Q (.ref p) (upd H' p (.tup [.non, .str wd]))) → E (.ref C) (some dd) H'
def TTr (T : Top w K mg) : (XK → Hp → VK → Prop) → Hp → VK → Prop := fun tl H Q => ∀ (E : XK) (Q1 : VK), TrE T Q E → (∀ v H', (∀ p, H' p = none → Q (.ref p) (upd H' p (.tup [v, .str ""]))) → Q1 v H') → tl E H Q1
theorem tried_gives (T : Top w K mg) {X : Cx} (eK : X.K = K) (eM : X.mg = mg) {q : Str} (cdv : Value) : GivesS X ["_law_ask", "_law_found", "_law_word", "e"] "_law_tried" (defScope s_law_tried) T.law_tried.a cdv (defBody s_law_tried) "_law_ask" q (TTr T) := by
  subst eK
  subst eM
  intro f c' s H Q tl act hc h
  refine ⟨_, pss_cons (ps_set (i := 1) sc_law_tried.nd rfl (.inl rfl) pe_non) (pss_cons (ps_set (i := 2) sc_law_tried.nd rfl (.inl rfl) pe_str) (pss_cons
    (ps_try_asMany (i := 3) (n := "e") rfl rfl sc_law_tried.nd rfl rfl takes0 (fun W pn xe tk _ => pss_one (ps_set (i := 1) sc_law_tried.nd rfl (.inl rfl) (act W pn xe _ _ tk)))
      (HdsAs.cons ⟨rfl, by decide, .inl T.x_LookError.gC⟩ (fun a oe cls d pn hz hf => pss_one (ps_set (i := 2) sc_law_tried.nd rfl (.inl rfl) (pe_xfA hz hf (pv 3))))
        (HdsAs.cons ⟨rfl, by decide, .inl T.x_HallError.gC⟩ (fun a oe cls d pn hz hf => pss_one (ps_set (i := 2) sc_law_tried.nd rfl (.inl rfl) (pe_xfA hz hf (pv 3)))) HdsAs.nil)))
    (pss_one (ps_ret (pe_tup (pa_cons (pv 1) (pa_cons (pv 2) pa_nil))))))), ?_⟩
  refine ⟨rfl, hc, h _ _ (fun C dd wd H' h1 h2 h3 h4 h5 => ?_) (fun v H' h5 => ?_)⟩
  · rcases h1 with h1 | ⟨h1, h6⟩
    · refine ⟨true, h1, fun _ a na => ⟨.ref a, rfl, rfl, C, rfl, h2, h3, dd, _, .str wd, rfl, h4, rfl, ?_⟩, fun z => nomatch z⟩
      exact ⟨_, rfl, _, rfl, by show 2 ≤ sizeLine; decide, h5⟩
    · refine ⟨false, h1, (fun z => nomatch z), fun _ => ⟨true, h6, fun _ a na => ⟨.ref a, rfl, rfl, C, rfl, h2, h3, dd, _, .str wd, rfl, h4, rfl, ?_⟩, fun z => nomatch z⟩⟩
      exact ⟨_, rfl, _, rfl, by show 2 ≤ sizeLine; decide, h5⟩
  · exact ⟨_, rfl, _, rfl, by show 2 ≤ sizeLine; decide, h5⟩
/-- the pair that comes of it -/
def TriedOk (Q : VK) (H : Hp) (v : V) (wd : Str) : Prop := ∀ p H2, L2.Same H H2 → H2 p = some (.tup [v, .str wd]) → Q (.ref p) H2
theorem TrE.rz {T : Top w K mg} {Q : VK} {E : XK} {C : Addr} {name : Str} {H : Hp} (h : TrE T Q E) (up : (PySem.W.exmOne K (.ref C) (.ref T.x_LookError.C) = some true ∨ (PySem.W.exmOne K (.ref C) (.ref T.x_LookError.C) = some false ∧ PySem.W.exmOne K (.ref C) (.ref T.x_HallError.C) = some true))) (xf : XfC K C) (no : PySem.W.findIn K (.ref C) "word" = some none) (q : TriedOk Q H .non name) : Rz E C name H :=
  fun d H' sm _ e => h C d name H' up xf no e fun p np => q p _ (sm.trans (same_new np)) upd_same
theorem g_tried {T : Top w K mg} {L : List (Addr × Str)} {t : XK → TE} {σ : L2.St} {H : Hp} {Q : VK} (hT : LamX.Tabs L H) (k : ∀ H1, LamX.ExtN H H1 → LamX.Tabs L H1 → ∀ (E : XK) (Q1 : VK), TrE T Q E → (∀ v H', TriedOk Q H' v "" → Q1 v H') → t E σ H1 Q1) : LamX.tLam L (TTr T) t σ H Q :=
  ⟨hT, fun H1 eN T1 E Q1 h1 h2 => k H1 eN T1 E Q1 h1 fun v H' q => h2 v H' fun p np => q p _ (same_new np) upd_same⟩
theorem g_triedQ {Q Q1 : VK} {H : Hp} {v : V} (h : ∀ v H', TriedOk Q H' v "" → Q1 v H') (q : TriedOk Q H v "") : Q1 v H := h v H q
theorem g_TTr {T : Top w K mg} {tl : XK → Hp → VK → Prop} {H : Hp} {Q : VK} (k : ∀ (E : XK) (Q1 : VK), TrE T Q E → (∀ v H', TriedOk Q H' v "" → Q1 v H') → tl E H Q1) : TTr T tl H Q :=
  fun E Q1 h1 h2 => k E Q1 h1 fun v H' q => h2 v H' fun p np => q p _ (same_new np) upd_same
local macro_rules | `(tactic| walk_at "call1") => `(tactic| first
  | (with_reducible refine g_TTr (fun E' Q' h1' h2' => ?_))
  | ((with_reducible refine' g_tried ?e1 ?_); (case e1 => walk_at "tabs"); intro H' n' t' E' Q' h1' h2')
  | ((with_reducible refine' g_triedQ ?e1 ?_); (case e1 => assumption); intro p' H' s' e'))

def LkE (T : Top w K mg) (e : Er) (wd : Str) : Prop := e.fs = ([("word", .str wd)] : List (Str × V)) ∧ (PySem.W.exmOne K (.ref e.C) (.ref T.x_LookError.C) = some true ∨ (PySem.W.exmOne K (.ref e.C) (.ref T.x_LookError.C) = some false ∧ PySem.W.exmOne K (.ref e.C) (.ref T.x_HallError.C) = some true)) ∧ XfC K e.C ∧ PySem.W.findIn K (.ref e.C) "word" = some none
/-- what comes of a try -/
def triedM (T : Top w K mg) (m : XK → M) : M := fun Q _ => ∀ E', m E' (fun d => Q (.tup [d, .str ""])) (fun e => ∃ wd, LkE T e wd ∧ Q (.tup [.non, .str wd]))
instance cv_tried {T : Top w K mg} {L : List (Addr × Str)} {E : XK} {t : XK → TE} {f : XK → En → M} [a : ∀ E', CV K (OTab L) E' 0 (t E') (f E')] : CV K (OTab L) E 0 (LamX.tLam L (TTr T) t) (fun ρ => triedM T (fun E' => f E' ρ)) := ⟨fun Hs okS σ H Q ⟨ρ, r, o, Q0, E0', hm, hq, he⟩ => by
  refine ⟨o.2 okS, fun H1 eN T1 E1 Q1 h1 h2 => (a E1).go Hs okS σ H1 Q1 ⟨ρ, r.mono eN, (OTab L).trans o ⟨eN, fun _ => T1⟩, _, _, hm E1, fun d v H' hd o' rv _ => ?_, fun e ⟨wd, ⟨hf, h3, h4, h5⟩, hd⟩ dd H' o' hx => ?_⟩⟩
  · refine h2 v H' fun p np => hq _ _ _ hd ((OTab L).trans ((OTab L).trans ⟨eN, fun _ => T1⟩ o') ((OTab L).same (same_new np))) (.tup (.inl (.inl upd_same)) (.cons (rv.mono (LamX.ExtN.of (same_new np))) (.cons (.str _) .nil))) True.intro
  · rw [hf] at hx
    refine h1 e.C dd wd H' h3 h4 h5 hx fun p np => hq _ _ _ hd ((OTab L).trans ((OTab L).trans ⟨eN, fun _ => T1⟩ o') ((OTab L).same (same_new np))) (.tup (.inl (.inl upd_same)) (.cons .non (.cons (.str _) .nil))) True.intro⟩
instance {T : Top w K mg} {m : M} {Q : D → Prop} {E : Er → Prop} : Stp (triedM T (fun _ => m) Q E) (m (fun d => Q (.tup [d, .str ""])) (fun e => ∃ wd, LkE T e wd ∧ Q (.tup [.non, .str wd]))) := ⟨fun h _ => h⟩
/-- a kept lambda is tried -/
def tryM (T : Top w K mg) (cells : List (Str × Addr)) (q : Str) (fs : List (Expr × (XK → En → M))) (ρ : En) (d : D) : M := fun Q E => ∃ p ∈ fs, d = .lam cells q p.1 ∧ triedM T (fun E' => p.2 E' ρ) Q E
instance cvm_try {T : Top w K mg} {L : List (Addr × Str)} {E : XK} {cells : List (Str × Addr)} {q : Str} {ls : List (Expr × (XK → TE))} {fs : List (Expr × (XK → En → M))} {te : TE} {fe : En → M} [b : LsV K L ls fs] [a : CV K (OTab L) E 0 te fe] : CVM K (OTab L) E 0 (fun σ0 => tTryV cells q ls (TTr T) σ0 te) (fun ρ0 ρ => bnd (fe ρ) fun d => tryM T cells q fs ρ0 d) := ⟨fun Hs okS σ0 ρ0 σ H Q r0 ⟨ρ, r, o, Q0, E0', hm, hq, he⟩ => by
  refine a.go Hs okS σ H _ ⟨ρ, r, o, _, E0', hm, fun d v H1 hd o1 rv _ => ?_, he⟩
  obtain ⟨rr, hr, rfl, ht⟩ := hd
  obtain ⟨p, hp, ep, cp⟩ := b.go rr hr
  cases rv with
  | @lam f cells q le la =>
    refine ⟨f, p, rfl, hp, by rw [ep]; exact la, fun E1 Q1 h1 h2 => (cp E1).go Hs okS σ0 H1 Q1 ⟨ρ0, r0.mono o1.1, (OTab L).trans o o1, _, _, ht E1, fun d v H' hd o' rv _ => ?_, fun e ⟨wd, ⟨hf, h3, h4, h5⟩, hd⟩ dd H' o' hx => ?_⟩⟩
    · exact h2 v H' fun p np => hq _ _ _ hd ((OTab L).trans ((OTab L).trans o1 o') ((OTab L).same (same_new np))) (.tup (.inl (.inl upd_same)) (.cons (rv.mono (LamX.ExtN.of (same_new np))) (.cons (.str _) .nil))) True.intro
    · rw [hf] at hx
      exact h1 e.C dd wd H' h3 h4 h5 hx fun p np => hq _ _ _ hd ((OTab L).trans ((OTab L).trans o1 o') ((OTab L).same (same_new np))) (.tup (.inl (.inl upd_same)) (.cons .non (.cons (.str _) .nil))) True.intro⟩
instance (priority := high) {T : Top w K mg} {cells : List (Str × Addr)} {q : Str} {le : Expr} {f : XK → En → M} {fs : List (Expr × (XK → En → M))} {ρ : En} {Q : D → Prop} {E : Er → Prop} : Stp (tryM T cells q ((le, f) :: fs) ρ (.lam cells q le) Q E) (triedM T (fun E' => f E' ρ) Q E) := ⟨fun h => ⟨_, List.mem_cons_self, rfl, h⟩⟩
instance (priority := low) {T : Top w K mg} {cells : List (Str × Addr)} {q : Str} {d : D} {p : Expr × (XK → En → M)} {fs : List (Expr × (XK → En → M))} {ρ : En} {Q : D → Prop} {E : Er → Prop} : Stp (tryM T cells q (p :: fs) ρ d Q E) (tryM T cells q fs ρ d Q E) := ⟨fun ⟨r, hr, h⟩ => ⟨r, List.mem_cons_of_mem _ hr, h⟩⟩
theorem lk_BadPrime {T : Top w K mg} {Q : Str → Prop} (q : Q "BadPrime") : ∃ wd, LkE T ⟨T.x_BadPrime.C, [("word", .str "BadPrime")]⟩ wd ∧ Q wd := ⟨"BadPrime", ⟨rfl, .inl T.up_BadPrime, T.x_BadPrime.xf, T.x_BadPrime.no⟩, q⟩
local macro_rules | `(tactic| walk_at "vcall") => `(tactic| with_reducible refine lk_BadPrime ?_)
theorem lk_BadPlace {T : Top w K mg} {Q : Str → Prop} (q : Q "BadPlace") : ∃ wd, LkE T ⟨T.x_BadPlace.C, [("word", .str "BadPlace")]⟩ wd ∧ Q wd := ⟨"BadPlace", ⟨rfl, .inl T.up_BadPlace, T.x_BadPlace.xf, T.x_BadPlace.no⟩, q⟩
local macro_rules | `(tactic| walk_at "vcall") => `(tactic| with_reducible refine lk_BadPlace ?_)
theorem lk_BadSaying {T : Top w K mg} {Q : Str → Prop} (q : Q "BadSaying") : ∃ wd, LkE T ⟨T.x_BadSaying.C, [("word", .str "BadSaying")]⟩ wd ∧ Q wd := ⟨"BadSaying", ⟨rfl, .inl T.up_BadSaying, T.x_BadSaying.xf, T.x_BadSaying.no⟩, q⟩
local macro_rules | `(tactic| walk_at "vcall") => `(tactic| with_reducible refine lk_BadSaying ?_)
theorem lk_BadQuestion {T : Top w K mg} {Q : Str → Prop} (q : Q "BadQuestion") : ∃ wd, LkE T ⟨T.x_BadQuestion.C, [("word", .str "BadQuestion")]⟩ wd ∧ Q wd := ⟨"BadQuestion", ⟨rfl, .inl T.up_BadQuestion, T.x_BadQuestion.xf, T.x_BadQuestion.no⟩, q⟩
local macro_rules | `(tactic| walk_at "vcall") => `(tactic| with_reducible refine lk_BadQuestion ?_)
/-! ### is_body -/
def m_is_body (T : Top w K mg) : Nat → List D → M
  | 0 => fun _ _ _ => False
  | n + 1 => fun ds Q _ => ∃ (d : D) (names : List Str) (room m : Nat), ds = [d, .lst (names.map D.str), .int (room : Int)] ∧ room ≤ n ∧ Th m d ∧ names.length ≤ 1000 ∧ ∀ r : Bool, (r = true ↔ BdIn names room d) → Q (.bl r)
theorem ov_is_body_n (T : Top w K mg) : ∀ n : Nat, FnOk P w K mg base (L2.CX P w) (1 + n + 1) T.is_body.a T.is_body.fd ["body", "names", "room"] (spV K 0 3 (m_is_body T n))
  | 0 => by
    refine T.is_body.F.okX sc_is_body (spV_len rfl) (fun cdv A outer s H vs Q E hr h => ?_)
    obtain ⟨ds, _, _, Q0, E0, hm, _⟩ := h
    exact hm.elim
  | n + 1 => by
    have ih := ov_is_body_n T n
    refine T.is_body.F.okX sc_is_body (spV_len rfl) (fun cdv A outer s H vs Q E hr h => ?_)
    refine ⟨_, (pss_cons (ps_if (PW.pt (pw_or (pt_cmpR (op_eqX K rfl hr) (pv 2) pe_int (nomark _)) (pw_or (pt_not (pt_val (pe_isi "tuple" (pe_callB (call_isiK2 K rfl) (by rfl) T.z_isinstance (by decide +kernel) (pa_cons (pv 0) (pa_cons (pe_bltn (v := .ty "tuple") (u := .type "tuple") (by rfl) T.z_tuple (by decide +kernel) rfl) pa_nil)))))) (pw_or (pt_cmpR op_lt (pe_callB (call_lenQK K rfl) (by rfl) T.z_len (by decide +kernel) (pa_cons (pv 0) pa_nil)) pe_int (nomark _)) (pw_or1 (pt_not (pt_val (pe_isi "str" (pe_callB (call_isiK2 K rfl) (by rfl) T.z_isinstance (by decide +kernel) (pa_cons (pe_ix (ix_QK K rfl) (pv 0) pe_int (fun _ _ => rfl)) (pa_cons (pe_bltn (v := .ty "str") (u := .type "str") (by rfl) T.z_str (by decide +kernel) rfl) pa_nil))))))))))) (pss_one (ps_ret pe_bl)) pss_nil)
    (pss_cons (ps_asg (pv 0) (pg_star K rfl rfl (pgs_cons (pg_name (i := 3) sc_is_body.nd rfl (by first | exact Or.inl rfl | exact Or.inr rfl)) (pgs_starC (pg_name (i := 4) sc_is_body.nd rfl (by first | exact Or.inl rfl | exact Or.inr rfl)) pgs_nil))))
    (pss_cons (ps_if (pt_cmpR (op_eqX K rfl hr) (pv 3) pe_str (nomark _)) (pss_one (ps_ret (pe_and (pe_cmpR (op_eqX K rfl hr) (pe_callB (call_lenQK K rfl) (by rfl) T.z_len (by decide +kernel) (pa_cons (pv 4) pa_nil)) pe_int (nomark _)) (pe_and (pe_isi "str" (pe_callB (call_isiK2 K rfl) (by rfl) T.z_isinstance (by decide +kernel) (pa_cons (pe_ix (ix_QK K rfl) (pv 4) pe_int (fun _ _ => rfl)) (pa_cons (pe_bltn (v := .ty "str") (u := .type "str") (by rfl) T.z_str (by decide +kernel) rfl) pa_nil)))) (pe_one (pe_cmpR (op_inQK K rfl) (pe_ix (ix_QK K rfl) (pv 4) pe_int (fun _ _ => rfl)) (pv 1) (by rfl))))))) pss_nil)
    (pss_cons (ps_if (pt_cmpR (op_neX K rfl hr) (pe_callB (call_lenQK K rfl) (by rfl) T.z_len (by decide +kernel) (pa_cons (pv 4) pa_nil)) (pe_dget2 (room1 hr) (pe_disp (pps_cons pe_str pe_int (pps_cons pe_str pe_int (pps_cons pe_str pe_int pps_nil))) rfl rfl (fun z => nomatch z) (Nat.le_of_ble_eq_true rfl)) (pv 3) pe_int (by first | exact ⟨rfl, rfl, rfl, rfl⟩ | exact ⟨rfl, rfl, rfl⟩ | constructor <;> rfl)) (nomark _)) (pss_one (ps_ret pe_bl)) pss_nil)
    (pss_one (ps_ret (pe_callB (cr_allK K rfl rfl) (by rfl) T.z_all (by decide +kernel) (pa_cons (pe_lcV (own := [("one", 5)]) [5] rfl sc_is_body.nd (pi_seqK K rfl (pv 4)) (blkOk_by (own := [("one", 5)]) (N := ["body", "names", "room", "word", "rest", "one"]) (sc := defScope s_is_body) (by decide +kernel)) (fun _ _ _ _ _ => (pg_name (i := 5) sc_is_body.nd rfl (by first | exact Or.inl rfl | exact Or.inr rfl))) (fun _ _ _ _ _ => pts_nil) (fun _ _ _ _ _ => (pe_hid (pe_call ih hr rfl T.is_body.g T.is_body.F.kp T.is_body.b .nil passL (pa_cons (pv 5) (pa_cons (pv 1) (pa_cons (pe_op op_sub (pv 2) pe_int) pa_nil))))))) pa_nil)))))))), ?_⟩
    refine fnV rfl h (fun ds Q0 E0 hl hm => ?_)
    obtain ⟨d, names, room, m, rfl, hr', hT, hn, q⟩ := hm
    show vSeq _ _ ⟨_, _, _, _, _⟩ [.fz d, .fz (.lst (names.map D.str)), .fz (.int (room : Int)), .no, .no, .no]
    have no : ¬ BdIn names room d → Q0 (.bl false) := fun h => q false ⟨fun z => (nomatch z), fun z => (h z).elim⟩
    rcases Nat.eq_zero_or_pos room with rfl | hpos
    · walk_at "v"
      exact no BdIn.zero
    · obtain ⟨room, rfl⟩ : ∃ k, room = k + 1 := ⟨room - 1, by omega⟩
      have hz : ¬ ((room + 1 : Nat) : Int) = 0 := by omega
      cases d with
      | str x =>
        walk_at "v"
        exact no fun h => by obtain ⟨_, _, e, _⟩ := h.tup; cases e
      | tup ds =>
        cases m with
        | zero => exact hT.elim
        | succ m =>
        obtain ⟨hdl, hT⟩ := hT
        match ds, hdl, hT, no, q with
        | [], _, _, no, _ =>
          have h2 : ((([] : List D).length : Nat) : Int) < 2 := by decide
          walk_at "v"
          exact no fun h => by obtain ⟨_, _, e, _⟩ := h.tup; cases e
        | [d], _, _, no, _ =>
          have h2 : ((([d] : List D).length : Nat) : Int) < 2 := by simp
          walk_at "v"
          exact no fun h => by
            obtain ⟨_, _, e, h2⟩ := h.tup
            cases e
            exact absurd h2 (by decide)
        | d :: e :: es, hdl, hT, no, q =>
          rw [List.length_cons] at hdl
          have h2 : ¬ (((d :: e :: es).length : Nat) : Int) < 2 := by simp only [List.length_cons]; omega
          have hTd := hT d List.mem_cons_self
          cases d with
          | tup ds' =>
            walk_at "v"
            exact no fun h => by obtain ⟨_, _, e, _⟩ := h.tup; cases e
          | str w =>
            have hT2 : ∀ d ∈ e :: es, Th m d := fun d hd => hT d (List.mem_cons_of_mem _ hd)
            clear hT hTd
            have hds1 : 1 ≤ (e :: es).length := by simp
            generalize e :: es = ds at *
            walk_at "v"
            · rename_i hw h1
              subst hw
              match ds, h1, hT2, no, q with
              | [d], h1, hT2, no, q =>
                refine ⟨d, rfl, ?_⟩
                have hTd := hT2 d List.mem_cons_self
                cases d with
                | str x =>
                  walk_at "v"
                  refine q _ ?_
                  rw [bdIn_nm, decide_eq_true_eq]
                  exact ⟨fun h => ⟨x, rfl, h⟩, fun ⟨y, e, h⟩ => by cases e; exact h⟩
                | tup ds' =>
                  walk_at "v"
                  refine no fun h => ?_
                  obtain ⟨x, e, _⟩ := bdIn_nm.mp h
                  cases e
                | _ => cases m <;> exact hTd.elim
            · rename_i hw h1
              subst hw
              refine no fun h => ?_
              obtain ⟨x, e, _⟩ := bdIn_nm.mp h
              subst e
              exact h1 rfl
            · rename_i hw
              refine dGet2_ar ?_
              walk_at "v"
              · rename_i h1
                refine no fun h => h1 ?_
                rw [((bdIn_ot hw hds1).mp h).1]
              · rename_i h1
                refine mapV_B (fun d => yes (BdIn names room d)) (fun d hd Q' hQ => ?_) ?_
                · walk_at "v"
                  have e : ((room + 1 : Nat) : Int) - 1 = ((room : Nat) : Int) := by omega
                  rw [e]
                  obtain ⟨n, rfl⟩ : ∃ k, n = k + 1 := ⟨n - 1, by omega⟩
                  exact ⟨d, names, room, m, rfl, by omega, hT2 d hd, hn, fun r hr => by rw [yes_of hr]; exact hQ⟩
                · walk_at "v"
                  refine q _ ?_
                  rw [List.all_map, List.all_eq_true, bdIn_ot hw hds1]
                  exact ⟨fun h => ⟨by omega, fun d hd => yes_iff.mp (h d hd)⟩, fun h d hd => yes_iff.mpr (h.2 d hd)⟩
          | _ => cases m <;> exact hTd.elim
      | _ => cases m <;> exact hT.elim
theorem ov_is_body (T : Top w K mg) : FnOk P w K mg base (L2.CX P w) (10) T.is_body.a T.is_body.fd ["body", "names", "room"] (spV K 0 3 (m_is_body T 8)) := ov_is_body_n T 8
theorem v_is_body {T : Top w K mg} {d : D} {names : List Str} {m : Nat} {Q : D → Prop} {E : Er → Prop} (hT : Th m d) (hn : names.length ≤ 1000) (q : ∀ r : Bool, (r = true ↔ BdIn names 6 d) → Q (.bl r)) : m_is_body T 8 [d, .lst (List.map D.str names), .int 6] Q E := ⟨d, names, 6, m, rfl, by decide, hT, hn, q⟩
/-! ### inner -/
def m_inner (T : Top w K mg) : List D → M := fun ds Q _ => ∃ b : Bd, ds = [bD b] ∧ Q (.lst (b.inner.map bD))
theorem ov_inner (T : Top w K mg) : FnOk P w K mg base (L2.CX P w) 1 T.inner.a T.inner.fd ["body"] (spV K 1 1 (m_inner T)) := by
  refine T.inner.F.okX sc_inner (spV_len rfl) (fun cdv A outer s H vs Q E hr h => ?_)
  refine ⟨_, (pss_one (ps_ret (pe_ifExp (pt_cmpR (op_neX K rfl hr) (pe_ix (ix_QK K rfl) (pv 0) pe_int (fun _ _ => rfl)) pe_str (nomark _)) (pe_callTy (call_listQK K rfl) (by rfl) T.z_list (by decide +kernel) (pa_cons (pe_slice (sl_Q K rfl) (pv 0) (po_some pe_int) po_none) pa_nil)) (pe_lst pa_nil)))), ?_⟩
  refine fnV rfl h (fun ds Q0 E0 hl hm => ?_)
  obtain ⟨b, rfl, q⟩ := hm
  cases b with
  | nm x =>
    show vRet _ ⟨_, _, _, _, _⟩ [.fz (.tup [.str "name", .str x])]
    walk_at "v"
    exact q
  | nt b =>
    show vRet _ ⟨_, _, _, _, _⟩ [.fz (.tup [.str "not", bD b])]
    walk_at "v"
    exact q
  | an b c =>
    show vRet _ ⟨_, _, _, _, _⟩ [.fz (.tup [.str "and", bD b, bD c])]
    walk_at "v"
    exact q
  | orr b c =>
    show vRet _ ⟨_, _, _, _, _⟩ [.fz (.tup [.str "or", bD b, bD c])]
    walk_at "v"
    exact q
theorem v_inner {T : Top w K mg} {b : Bd} {Q : D → Prop} {E : Er → Prop} (q : Q (.lst (List.map bD b.inner))) : m_inner T [bD b] Q E := ⟨b, rfl, q⟩
local macro_rules | `(tactic| walk_at "vcall") => `(tactic| (with_reducible refine v_inner ?_))
/-! ### parts_of -/
def m_parts_of (T : Top w K mg) : Nat → List D → M
  | 0 => fun _ _ _ => False
  | n + 1 => fun ds Q _ => ∃ b : Bd, ds = [bD b] ∧ b.deep ≤ n ∧ n ≤ 7 ∧ Q (.lst (b.all.map bD))
theorem ov_parts_of_n (T : Top w K mg) : ∀ n : Nat, FnOk P w K mg base (L2.CX P w) (2 + n + 1) T.parts_of.a T.parts_of.fd ["body"] (spV K 0 1 (m_parts_of T n))
  | 0 => by
    refine T.parts_of.F.okX sc_parts_of (spV_len rfl) (fun cdv A outer s H vs Q E hr h => ?_)
    obtain ⟨ds, _, _, Q0, E0, hm, _⟩ := h
    exact hm.elim
  | n + 1 => by
    have ih := ov_parts_of_n T n
    refine T.parts_of.F.okX sc_parts_of (spV_len rfl) (fun cdv A outer s H vs Q E hr h => ?_)
    refine ⟨_, (pss_cons (ps_own (ps_set (i := 1) sc_parts_of.nd rfl (Or.inl rfl) (pe_lst (pa_cons (pv 0) pa_nil))))
    (pss_cons (ps_forF [2] (ps_for (passes_of rfl) rfl (pi_hids (pi_seqK K rfl (pe_call (ov_inner T) (hr.mono (by omega)) rfl T.inner.g T.inner.F.kp T.inner.b .nil (passes_call (takes_of rfl rfl rfl rfl) (fun _ _ _ _ h => h)) (pa_cons (pv 0) pa_nil)))) (pg_name (i := 2) sc_parts_of.nd rfl (Or.inl rfl)) (pss_one (ps_expr (pe_bmK K rfl PySem.F.plainAttrs_list PySem.F.slot_list_extend PySem.F.type_list_extend mt_extend (pv 1) (pa_cons (pe_hids (pe_call ih hr rfl T.parts_of.g T.parts_of.F.kp T.parts_of.b .nil (passes_call (takes_of rfl rfl rfl rfl) (fun _ _ _ _ h => h)) (pa_cons (pv 2) pa_nil))) pa_nil))))))
    (pss_one (ps_ret (pv 1))))), ?_⟩
    refine fnV rfl h (fun ds Q0 E0 hl hm => ?_)
    obtain ⟨b, rfl, hd, hn, q⟩ := hm
    show vSeq _ _ ⟨_, _, _, _, _⟩ [.fz (bD b), .no, .no]
    walk_at "v"
    have hp : b.parts + 1 ≤ 2 ^ 7 := Nat.le_trans b.parts_deep (Nat.pow_le_pow_right (by decide) (by omega))
    refine forA (fun i => [.fz (bD b), .ow (List.map bD (b :: (b.inner.take i).flatMap Bd.all)), .no]) rfl (fun i d N hi hN => ?_) ?_
    · rw [List.getElem?_map] at hi
      cases hc : b.inner[i]? with
      | none => rw [hc] at hi; cases hi
      | some c =>
      rw [hc] at hi
      cases hi
      have hci : c.deep + 1 ≤ b.deep := Bd.inner_deep (List.mem_of_getElem? hc)
      obtain ⟨n, rfl⟩ : ∃ k, n = k + 1 := ⟨n - 1, by omega⟩
      walk_at "v"
      refine ⟨c, rfl, by omega, by omega, ?_⟩
      show ExtO 1 _ _ _ N
      have hal : (b.inner.take i).flatMap Bd.all ++ c.all = (b.inner.take (i + 1)).flatMap Bd.all := by
        rw [take_snoc' hc, List.flatMap_append]
        simp
      have hle : ((b.inner.take (i + 1)).flatMap Bd.all).length + 1 ≤ b.parts := by
        have h1 := congrArg List.length b.all_eq
        rw [Bd.all_len, List.length_cons] at h1
        have h2 : ((b.inner.take (i + 1)).flatMap Bd.all).length + ((b.inner.drop (i + 1)).flatMap Bd.all).length = (b.inner.flatMap Bd.all).length := by
          rw [← List.length_append, ← List.flatMap_append, List.take_append_drop]
        omega
      walk_at "v"
      rw [← List.map_append, List.cons_append, ← List.length_append, ← List.map_append, List.cons_append, hal]
      refine ⟨by rw [List.length_map, List.length_cons]; omega, ?_⟩
      walk_at "v"
    · have e : b.inner.take (List.map bD b.inner).length = b.inner := by rw [List.length_map, List.take_length]
      rw [e, ← Bd.all_eq]
      walk_at "v"
      exact q
theorem ov_parts_of (T : Top w K mg) : FnOk P w K mg base (L2.CX P w) (11) T.parts_of.a T.parts_of.fd ["body"] (spV K 0 1 (m_parts_of T 8)) := ov_parts_of_n T 8
theorem v_parts_of {T : Top w K mg} {b : Bd} {n : Nat} {Q : D → Prop} {E : Er → Prop} (h : b.deep ≤ n) (hn : n ≤ 7) (q : Q (.lst (List.map bD b.all))) : m_parts_of T (n + 1) [bD b] Q E := ⟨b, rfl, h, hn, q⟩
local macro_rules | `(tactic| walk_at "vcall") => `(tactic| ((with_reducible refine' v_parts_of (n := 7) ?e1 ?e2 ?_); (case e1 => omega); (case e2 => decide)))
/-! ### often -/
def m_often (T : Top w K mg) : List D → M := fun ds Q _ => ∃ (x : Str) (b : Bd), ds = [.str x, bD b] ∧ okStr x ∧ b.okN ∧ b.deep ≤ 7 ∧ Q (.int (b.often x : Nat))
theorem ov_often (T : Top w K mg) : FnOk P w K mg base (L2.CX P w) 12 T.often.a T.often.fd ["name", "body"] (spV K 0 2 (m_often T)) := by
  refine T.often.F.okX sc_often (spV_len rfl) (fun cdv A outer s H vs Q E hr h => ?_)
  refine ⟨_, (pss_one (ps_ret (pe_callB (call_lenQK K rfl) (by rfl) T.z_len (by decide +kernel) (pa_cons (pe_lcV (own := [("one", 2)]) [2] rfl sc_often.nd (pi_seqK K rfl (pe_call (ov_parts_of T) (hr.mono (by decide)) rfl T.parts_of.g T.parts_of.F.kp T.parts_of.b .nil (passes_call (takes_of rfl rfl rfl rfl) (fun _ _ _ _ h => h)) (pa_cons (pv 1) pa_nil))) (blkOk_by (own := [("one", 2)]) (N := ["name", "body", "one"]) (sc := defScope s_often) (by decide +kernel)) (fun _ _ _ _ _ => (pg_name (i := 2) sc_often.nd rfl (by first | exact Or.inl rfl | exact Or.inr rfl))) (fun _ _ _ _ _ => (pts_one (pt_hid (pt_cmpR (op_eqX K rfl hr) (pv 2) (pe_tup (pa_cons pe_str (pa_cons (pv 0) pa_nil))) (nomark _))))) (fun _ _ _ _ _ => (pe_hid (pv 2)))) pa_nil)))), ?_⟩
  refine fnV rfl h (fun ds Q0 E0 hl hm => ?_)
  obtain ⟨x, b, rfl, hx, hb, hd, q⟩ := hm
  show vRet _ ⟨_, _, _, _, _⟩ [.fz (.str x), .fz (bD b), .no]
  have hp : b.parts + 1 ≤ 2 ^ 7 := Nat.le_trans b.parts_deep (Nat.pow_le_pow_right (by decide) (by omega))
  have hal := b.all_len
  walk_at "v"
  refine filV_mapS _ (Bd.isNm x) bD (fun c hc Q' hQ => ?_) (fun c hc hp Q' hQ => ?_) ?_
  · obtain ⟨h1, h2⟩ := Bd.all_sub hc
    walk_at "v"
    refine eqM_pl (n := c.deep) (m := 2) (Bd.pl fun y hy => hb y (h1 y hy)) (fun d hd => ?_) (by omega) (by decide) (fun r hr => ?_)
    · rcases List.mem_cons.mp hd with rfl | hd
      · exact Pl.up (n := 0) (show okStr _ by unfold okStr; decide +kernel) (Nat.zero_le _)
      · rw [List.mem_singleton.mp hd]
        exact hx
    · walk_at "v"
      have e : r = c.isNm x := by
        rw [Bool.eq_iff_iff, hr, Bd.isNm_iff]
      rw [e]
      exact hQ
  · walk_at "v"
    exact hQ
  · walk_at "v"
    rw [List.length_map, Bd.often_all]
    exact q
theorem v_often {T : Top w K mg} {x : Str} {b : Bd} {Q : D → Prop} {E : Er → Prop} (hx : okStr x) (hb : b.okN) (hd : b.deep ≤ 7) (q : Q (.int (b.often x : Nat))) : m_often T [.str x, bD b] Q E := ⟨x, b, rfl, hx, hb, hd, q⟩
local macro_rules | `(tactic| walk_at "vcall") => `(tactic| ((with_reducible refine' v_often ?e1 ?e2 ?e3 ?_); (case e1 => assumption); (case e2 => assumption); (case e3 => omega)))
/-! ### is_small -/
def m_is_small (T : Top w K mg) : List D → M := fun ds Q _ => ∃ (b : Bd) (names : List Str), ds = [bD b, .lst (names.map D.str)] ∧ b.deep ≤ 7 ∧ b.okN ∧ names.length ≤ 1000 ∧ (∀ x ∈ names, okStr x) ∧ ∀ r : Bool, (r = true ↔ b.parts ≤ 24 ∧ ∀ x ∈ names, b.often x ≤ 4) → Q (.bl r)
theorem ov_is_small (T : Top w K mg) : FnOk P w K mg base (L2.CX P w) 13 T.is_small.a T.is_small.fd ["body", "names"] (spV K 0 2 (m_is_small T)) := by
  refine T.is_small.F.okX sc_is_small (spV_len rfl) (fun cdv A outer s H vs Q E hr h => ?_)
  refine ⟨_, (pss_one (ps_ret (pe_and (pe_cmpR op_le (pe_callB (call_lenQK K rfl) (by rfl) T.z_len (by decide +kernel) (pa_cons (pe_call (ov_parts_of T) (hr.mono (by decide)) rfl T.parts_of.g T.parts_of.F.kp T.parts_of.b .nil (passes_call (takes_of rfl rfl rfl rfl) (fun _ _ _ _ h => h)) (pa_cons (pv 0) pa_nil)) pa_nil)) (pe_globI rfl T.c_MOST_PARTS) (nomark _)) (pe_one (pe_callB (cr_allK K rfl rfl) (by rfl) T.z_all (by decide +kernel) (pa_cons (pe_lcV (own := [("name", 2)]) [2] rfl sc_is_small.nd (pi_seqK K rfl (pv 1)) (blkOk_by (own := [("name", 2)]) (N := ["body", "names", "name"]) (sc := defScope s_is_small) (by decide +kernel)) (fun _ _ _ _ _ => (pg_name (i := 2) sc_is_small.nd rfl (by first | exact Or.inl rfl | exact Or.inr rfl))) (fun _ _ _ _ _ => pts_nil) (fun _ _ _ _ _ => (pe_hid (pe_cmpR op_le (pe_call (ov_often T) (hr.mono (by decide)) rfl T.often.g T.often.F.kp T.often.b .nil passL (pa_cons (pv 2) (pa_cons (pv 0) pa_nil))) (pe_globI rfl T.c_MOST_OFTEN) (nomark _))))) pa_nil)))))), ?_⟩
  refine fnV rfl h (fun ds Q0 E0 hl hm => ?_)
  obtain ⟨b, names, rfl, hd, hb, hn, ho, q⟩ := hm
  show vRet _ ⟨_, _, _, _, _⟩ [.fz (bD b), .fz (.lst (names.map D.str)), .no]
  have hal := b.all_len
  walk_at "v"
  · rename_i h1
    rw [List.length_map] at h1
    refine mapV_mapB _ (fun x => decide (((b.often x : Nat) : Int) ≤ 4)) (fun x hx Q' hQ => ?_) ?_
    · have hx' := ho x hx
      walk_at "v"
      exact hQ
    · walk_at "v"
      refine q _ ?_
      rw [List.all_map, List.all_eq_true]
      constructor
      · exact fun h => ⟨by omega, fun x hx => by have := of_decide_eq_true (h x hx); omega⟩
      · exact fun h x hx => decide_eq_true (by have := h.2 x hx; omega)
  · rename_i h1
    rw [List.length_map] at h1
    exact q false ⟨fun z => (nomatch z), fun h => absurd h.1 (by omega)⟩
theorem v_is_small {T : Top w K mg} {b : Bd} {names : List Str} {Q : D → Prop} {E : Er → Prop} (hd : b.deep ≤ 7) (hb : b.okN) (hn : names.length ≤ 1000) (ho : ∀ x ∈ names, okStr x) (q : ∀ r : Bool, (r = true ↔ b.parts ≤ 24 ∧ ∀ x ∈ names, b.often x ≤ 4) → Q (.bl r)) : m_is_small T [bD b, .lst (List.map D.str names)] Q E := ⟨b, names, rfl, hd, hb, hn, ho, q⟩
/-! ### is_name -/
def m_is_name (T : Top w K mg) : List D → M := fun ds Q _ => ∃ x : Str, ds = [.str x] ∧ x.length ≤ 1000 ∧ ∀ b : Bool, (b = true ↔ NmOk x) → Q (.bl b)
theorem ov_is_name (T : Top w K mg) : FnOk P w K mg base (L2.CX P w) 1 T.is_name.a T.is_name.fd ["text"] (spV K 0 1 (m_is_name T)) := by
  refine T.is_name.F.okX sc_is_name (spV_len rfl) (fun cdv A outer s H vs Q E hr h => ?_)
  refine ⟨_, (pss_one (ps_ret (pe_and (pe_chain op_le op_le pe_int (pe_callB call_lenT (by rfl) T.z_len (by decide +kernel) (pa_cons (pv 0) pa_nil)) (pe_globI rfl T.c_LONGEST)) (pe_and (pe_cmpR (op_notInQK K rfl) (pv 0) (pe_glob (v := .ref T.a_WORDS) rfl T.c_WORDS rfl) (by rfl)) (pe_one (pe_callB (cr_allK K rfl rfl) (by rfl) T.z_all (by decide +kernel) (pa_cons (pe_lcV (own := [("sign", 1)]) [1] rfl sc_is_name.nd (pi_str (pv 0)) (blkOk_by (own := [("sign", 1)]) (N := ["text", "sign"]) (sc := defScope s_is_name) (by decide +kernel)) (fun _ _ _ _ _ => (pg_name (i := 1) sc_is_name.nd rfl (by first | exact Or.inl rfl | exact Or.inr rfl))) (fun _ _ _ _ _ => pts_nil) (fun _ _ _ _ _ => (pe_hid (pe_cmpR op_inT (pv 1) (pe_globS rfl T.c_LETTERS) (by rfl))))) pa_nil))))))), ?_⟩
  refine fnV rfl h (fun ds Q0 E0 hl hm => ?_)
  obtain ⟨x, rfl, hx, q⟩ := hm
  show vRet _ ⟨_, _, _, _, _⟩ [.fz (.str x), .no]
  have hl : (tl x).length ≤ 1000 := by rw [← tl_len]; exact hx
  walk_at "v"
  · rename_i h1 h2 h3
    refine mapV_mapB _ (fun c => decide (c ∈ tl LETS)) (fun c hc Q' hQ => ?_) ?_
    · walk_at "v"
      exact hQ
    · walk_at "v"
      refine q _ ?_
      rw [List.all_map, List.all_eq_true]
      constructor
      · intro h
        refine ⟨by omega, by omega, fun c hc => mem_LETS.mp (of_decide_eq_true (h c hc)), fun z => h3 (by rw [z]; decide), fun z => h3 (by rw [z]; decide)⟩
      · intro h c hc
        exact decide_eq_true (mem_LETS.mpr (h.2.2.1 c hc))
  · rename_i h1 h2 h3
    refine q false ⟨fun z => (nomatch z), fun h => ?_⟩
    rcases List.mem_cons.mp h3 with e | e
    · exact absurd e h.2.2.2.1
    · exact absurd (List.mem_singleton.mp e) h.2.2.2.2
  · rename_i h1 h2
    refine q false ⟨fun z => (nomatch z), fun h => ?_⟩
    have := h.2.1
    omega
  · rename_i h1
    refine q false ⟨fun z => (nomatch z), fun h => ?_⟩
    have := h.1
    omega
theorem v_is_name {T : Top w K mg} {x : Str} {Q : D → Prop} {E : Er → Prop} (hx : x.length ≤ 1000) (h : NmOk x) (q : Q (.bl true)) : m_is_name T [.str x] Q E := ⟨x, rfl, hx, fun b hb => by rw [hb.mpr h]; exact q⟩
theorem v_is_nameN {T : Top w K mg} {x : Str} {Q : D → Prop} {E : Er → Prop} (hx : x.length ≤ 1000) (h : ¬ NmOk x) (q : Q (.bl false)) : m_is_name T [.str x] Q E := ⟨x, rfl, hx, fun b hb => by
  cases b with
  | false => exact q
  | true => exact absurd (hb.mp rfl) h⟩
local macro_rules | `(tactic| walk_at "vcall") => `(tactic| first | ((with_reducible refine' v_is_name ?e1 ?e2 ?_); (case e1 => walk_at "vside"); (case e2 => assumption)) | ((with_reducible refine' v_is_nameN ?e1 ?e2 ?_); (case e1 => walk_at "vside"); (case e2 => assumption)))
/-! ### is_front -/
def m_is_front (T : Top w K mg) : List D → M := fun ds Q _ => ∃ f : List (Str × Str), ds = [.tup (f.map prD)] ∧ f.length ≤ 1000 ∧ (∀ p ∈ f, p.2.length ≤ 1000) ∧ ∀ r : Bool, (r = true ↔ FrOk f) → Q (.bl r)
theorem ov_is_front (T : Top w K mg) : FnOk P w K mg base (L2.CX P w) 2 T.is_front.a T.is_front.fd ["front"] (spV K 0 1 (m_is_front T)) := by
  refine T.is_front.F.okX sc_is_front (spV_len rfl) (fun cdv A outer s H vs Q E hr h => ?_)
  refine ⟨_, (pss_cons (ps_if (PW.pt (pw_or (pt_not (pt_val (pe_isi "tuple" (pe_callB (call_isiK2 K rfl) (by rfl) T.z_isinstance (by decide +kernel) (pa_cons (pv 0) (pa_cons (pe_bltn (v := .ty "tuple") (u := .type "tuple") (by rfl) T.z_tuple (by decide +kernel) rfl) pa_nil)))))) (pw_or1 (pt_not (pt_chain op_le op_le pe_int (pe_callB (call_lenQK K rfl) (by rfl) T.z_len (by decide +kernel) (pa_cons (pv 0) pa_nil)) (pe_globI rfl T.c_MOST_FRONT)))))) (pss_one (ps_ret pe_bl)) pss_nil)
    (pss_cons (ps_forF [1] (ps_for (passes_of rfl) rfl (pi_hids (pi_seqK K rfl (pv 0))) (pg_name (i := 1) sc_is_front.nd rfl (Or.inl rfl)) (pss_cons (ps_if (PW.pt (pw_or (pt_not (pt_val (pe_isi "tuple" (pe_callB (call_isiK2 K rfl) (by rfl) T.z_isinstance (by decide +kernel) (pa_cons (pv 1) (pa_cons (pe_bltn (v := .ty "tuple") (u := .type "tuple") (by rfl) T.z_tuple (by decide +kernel) rfl) pa_nil)))))) (pw_or (pt_cmpR (op_neX K rfl hr) (pe_callB (call_lenQK K rfl) (by rfl) T.z_len (by decide +kernel) (pa_cons (pv 1) pa_nil)) pe_int (nomark _)) (pw_or (pt_not (pt_val (pe_isi "str" (pe_callB (call_isiK2 K rfl) (by rfl) T.z_isinstance (by decide +kernel) (pa_cons (pe_ix (ix_QK K rfl) (pv 1) pe_int (fun _ _ => rfl)) (pa_cons (pe_bltn (v := .ty "str") (u := .type "str") (by rfl) T.z_str (by decide +kernel) rfl) pa_nil)))))) (pw_or1 (pt_not (pt_val (pe_isi "str" (pe_callB (call_isiK2 K rfl) (by rfl) T.z_isinstance (by decide +kernel) (pa_cons (pe_ix (ix_QK K rfl) (pv 1) pe_int (fun _ _ => rfl)) (pa_cons (pe_bltn (v := .ty "str") (u := .type "str") (by rfl) T.z_str (by decide +kernel) rfl) pa_nil))))))))))) (pss_one (ps_ret pe_bl)) pss_nil)
    (pss_one (ps_if (PW.pt (pw_or (pt_cmpR (op_notInQK K rfl) (pe_ix (ix_QK K rfl) (pv 1) pe_int (fun _ _ => rfl)) (pe_glob (v := .ref T.a_WORDS) rfl T.c_WORDS rfl) (by rfl)) (pw_or1 (pt_not (pt_val (pe_call (ov_is_name T) (hr.mono (by decide)) rfl T.is_name.g T.is_name.F.kp T.is_name.b .nil (passes_call (takes_of rfl rfl rfl rfl) (fun _ _ _ _ h => h)) (pa_cons (pe_ix (ix_QK K rfl) (pv 1) pe_int (fun _ _ => rfl)) pa_nil))))))) (pss_one (ps_ret pe_bl)) pss_nil)))))
    (pss_one (ps_ret (pe_cmpR (op_eqX K rfl hr) (pe_callB call_lenK (by rfl) T.z_len (by decide +kernel) (pa_cons (pe_scK (own := [("word", 2), ("name", 3)]) [2, 3] rfl sc_is_front.nd (pi_seqK K rfl (pv 0)) (blkOk_by (own := [("word", 2), ("name", 3)]) (N := ["front", "one", "word", "name"]) (sc := defScope s_is_front) (by decide +kernel)) (fun _ _ _ _ _ => (pg_tupK (n := 2) K rfl rfl (pgs_cons (pg_name (i := 2) sc_is_front.nd rfl (by first | exact Or.inl rfl | exact Or.inr rfl)) (pgs_cons (pg_name (i := 3) sc_is_front.nd rfl (by first | exact Or.inl rfl | exact Or.inr rfl)) pgs_nil)))) (fun _ _ _ _ _ => pts_nil) (fun _ _ _ _ _ => (pv 3))) pa_nil)) (pe_callB (call_lenQK K rfl) (by rfl) T.z_len (by decide +kernel) (pa_cons (pv 0) pa_nil)) (nomark _)))))), ?_⟩
  refine fnV rfl h (fun ds Q0 E0 hl hm => ?_)
  obtain ⟨f, rfl, hf, hx, q⟩ := hm
  show vSeq _ _ ⟨_, _, _, _, _⟩ [.fz (.tup (f.map prD)), .no, .no, .no]
  walk_at "v"
  · rename_i h1 h2
    rw [List.length_map] at h2
    exact q false ⟨fun z => (nomatch z), fun h => absurd h.1.2 (by omega)⟩
  · rename_i h1 h2
    rw [List.length_map] at h1 h2
    refine forP (fun i ρ => ρ = [.fz (.tup (f.map prD)), .no, .no, .no] ∧ ∀ p ∈ f.take i, p.1 ∈ ([("all" : Str), "some"] : List Str) ∧ NmOk p.2) ⟨rfl, fun p hp => (by simp at hp)⟩ (fun i d ρ N hi hP hN => ?_) (fun ρ hP => ?_)
    · obtain ⟨rfl, hP⟩ := hP
      rw [List.getElem?_map] at hi
      cases hc : f[i]? with
      | none => rw [hc] at hi; cases hi
      | some p =>
      rw [hc] at hi
      cases hi
      have hpm := List.mem_of_getElem? hc
      have hpl := hx p hpm
      show turnV _ (.tup [.str p.1, .str p.2]) _ _
      by_cases hk : NmOk p.2
      · walk_at "v"
        · rename_i e1
          exact q false ⟨fun z => (nomatch z), fun h => absurd (h.2.1 p hpm).1 e1⟩
        · rename_i e1
          refine useP hN (WkE.refl _) ⟨rfl, fun p' hp' => ?_⟩
          rw [take_snoc' hc] at hp'
          rcases List.mem_append.mp hp' with hp' | hp'
          · exact hP p' hp'
          · rw [List.mem_singleton.mp hp']
            exact ⟨e1, hk⟩
      · walk_at "v"
        · exact q false ⟨fun z => (nomatch z), fun h => (hk (h.2.1 p hpm).2).elim⟩
        · exact q false ⟨fun z => (nomatch z), fun h => (hk (h.2.1 p hpm).2).elim⟩
    · obtain ⟨rfl, hP⟩ := hP
      rw [List.length_map, List.take_length] at hP
      walk_at "v"
      refine mapV_map prD (fun p => .str p.2) (fun p hp Q' hQ => ?_) ?_
      · show elV _ _ _ _ (.tup [.str p.1, .str p.2]) _ _
        walk_at "v"
        exact hQ
      · refine ⟨f.map (·.2), by rw [List.map_map]; rfl, ?_⟩
        walk_at "v"
        refine q _ ?_
        have e : (((disN (f.map (·.2)) : Nat) : Int) = ((f.map prD).length : Nat)) ↔ (f.map (·.2)).Nodup := by
          rw [← disN_nd, List.length_map, List.length_map]
          omega
        rw [decide_eq_true_eq, e]
        exact ⟨fun h => ⟨⟨by omega, by omega⟩, hP, h⟩, fun h => h.2.2⟩
  · rename_i h1
    rw [List.length_map] at h1
    exact q false ⟨fun z => (nomatch z), fun h => absurd h.1.1 (by omega)⟩
theorem v_is_front {T : Top w K mg} {f : List (Str × Str)} {Q : D → Prop} {E : Er → Prop} (h1 : f.length ≤ 1000) (h2 : ∀ p ∈ f, p.2.length ≤ 1000) (q : ∀ r : Bool, (r = true ↔ FrOk f) → Q (.bl r)) : m_is_front T [.tup (List.map prD f)] Q E := ⟨f, rfl, h1, h2, q⟩
/-! ### is_saying -/
def m_is_saying (T : Top w K mg) : List D → M := fun ds Q _ => ∃ (f : List (Str × Str)) (d : D) (m : Nat), ds = [fbD f d] ∧ f.length ≤ 1000 ∧ (∀ p ∈ f, p.2.length ≤ 1000) ∧ Th m d ∧ ∀ r : Bool, (r = true ↔ IsSay f d) → Q (.bl r)
theorem ov_is_saying (T : Top w K mg) : FnOk P w K mg base (L2.CX P w) 14 T.is_saying.a T.is_saying.fd ["thing"] (spV K 0 1 (m_is_saying T)) := by
  refine T.is_saying.F.okX sc_is_saying (spV_len rfl) (fun cdv A outer s H vs Q E hr h => ?_)
  refine ⟨_, (pss_cons (ps_if (PW.pt (pw_or (pt_not (pt_val (pe_isi "tuple" (pe_callB (call_isiK2 K rfl) (by rfl) T.z_isinstance (by decide +kernel) (pa_cons (pv 0) (pa_cons (pe_bltn (v := .ty "tuple") (u := .type "tuple") (by rfl) T.z_tuple (by decide +kernel) rfl) pa_nil)))))) (pw_or (pt_cmpR (op_neX K rfl hr) (pe_callB (call_lenQK K rfl) (by rfl) T.z_len (by decide +kernel) (pa_cons (pv 0) pa_nil)) pe_int (nomark _)) (pw_or1 (pt_not (pt_val (pe_call (ov_is_front T) (hr.mono (by decide)) rfl T.is_front.g T.is_front.F.kp T.is_front.b .nil (passes_call (takes_of rfl rfl rfl rfl) (fun _ _ _ _ h => h)) (pa_cons (pe_ix (ix_QK K rfl) (pv 0) pe_int (fun _ _ => rfl)) pa_nil)))))))) (pss_one (ps_ret pe_bl)) pss_nil)
    (pss_cons (ps_setLcV (i := 1) (own := [("word", 2), ("name", 3)]) [2, 3] rfl sc_is_saying.nd rfl rfl (sw_true rfl rfl rfl (by decide +kernel)) (pi_seqK K rfl (pe_ix (ix_QK K rfl) (pv 0) pe_int (fun _ _ => rfl))) (blkOk_by (own := [("word", 2), ("name", 3)]) (N := ["thing", "names", "word", "name"]) (sc := defScope s_is_saying) (by decide +kernel)) (fun _ _ _ _ _ => (pg_tupK (n := 2) K rfl rfl (pgs_cons (pg_name (i := 2) sc_is_saying.nd rfl (by first | exact Or.inl rfl | exact Or.inr rfl)) (pgs_cons (pg_name (i := 3) sc_is_saying.nd rfl (by first | exact Or.inl rfl | exact Or.inr rfl)) pgs_nil)))) (fun _ _ _ _ _ => pts_nil) (fun _ _ _ _ _ => (pe_hid (pv 3))))
    (pss_one (ps_ret (pe_and (pe_call (ov_is_body T) (hr.mono (by decide)) rfl T.is_body.g T.is_body.F.kp T.is_body.b .nil (passes_call (takes_of rfl rfl rfl rfl) (fun _ _ _ _ h => h)) (pa_cons (pe_ix (ix_QK K rfl) (pv 0) pe_int (fun _ _ => rfl)) (pa_cons (pv 1) (pa_cons (pe_globI rfl T.c_MOST_DEEP) pa_nil)))) (pe_one (pe_call (ov_is_small T) (hr.mono (by decide)) rfl T.is_small.g T.is_small.F.kp T.is_small.b .nil (passes_call (takes_of rfl rfl rfl rfl) (fun _ _ _ _ h => h)) (pa_cons (pe_ix (ix_QK K rfl) (pv 0) pe_int (fun _ _ => rfl)) (pa_cons (pv 1) pa_nil))))))))), ?_⟩
  refine fnV rfl h (fun ds Q0 E0 hl hm => ?_)
  obtain ⟨f, d, m, rfl, hf, hx, hT, q⟩ := hm
  show vSeq _ _ ⟨_, _, _, _, _⟩ [.fz (.tup [.tup (f.map prD), d]), .no, .no, .no]
  walk_at "v"
  refine v_is_front hf hx fun r hr => ?_
  by_cases hF : FrOk f
  · rw [hr.mpr hF]
    walk_at "v"
    refine mapV_map prD (fun p => .str p.2) (fun p hp Q' hQ => ?_) ?_
    · show elV _ _ _ _ (.tup [.str p.1, .str p.2]) _ _
      walk_at "v"
      exact hQ
    · have en : f.map (fun p => D.str p.2) = List.map D.str (f.map (·.2)) := by rw [List.map_map]; rfl
      rw [en]
      have hno : ∀ x ∈ f.map (·.2), okStr x := fun x hx => by
        obtain ⟨p, hp, rfl⟩ := List.mem_map.mp hx
        exact (hF.2.1 p hp).2.ok
      have hfl := hF.1
      walk_at "v"
      refine v_is_body hT (by rw [List.length_map]; omega) fun r2 hr2 => ?_
      by_cases hB : BdIn (f.map (·.2)) 6 d
      · rw [hr2.mpr hB]
        obtain ⟨b, rfl, g1, g2⟩ := hB
        walk_at "v"
        refine v_is_small (by omega) (fun x hx => hno x (g2 x hx)) (by rw [List.length_map]; omega) hno fun r3 hr3 => ?_
        walk_at "v"
        refine q _ ?_
        rw [hr3, isSay_iff]
        constructor
        · exact fun h => ⟨hF, b, rfl, g1, g2, h.1, h.2⟩
        · rintro ⟨_, b', e, _, _, h6, h7⟩
          rw [bD_inj e]
          exact ⟨h6, h7⟩
      · have e2 : r2 = false := by cases r2 with | false => rfl | true => exact absurd (hr2.mp rfl) hB
        rw [e2]
        walk_at "v"
        refine q _ ⟨fun z => (nomatch z), fun h => ?_⟩
        obtain ⟨_, b, rfl, h4, h5, _⟩ := isSay_iff.mp h
        exact (hB ⟨b, rfl, h4, h5⟩).elim
  · have e2 : r = false := by cases r with | false => rfl | true => exact absurd (hr.mp rfl) hF
    rw [e2]
    walk_at "v"
    exact q _ ⟨fun z => (nomatch z), fun h => (hF (isSay_iff.mp h).1).elim⟩

/-! ### look_saying -/
def m_look_saying (T : Top w K mg) : List D → M := fun ds Q E => ∃ (f : List (Str × Str)) (d : D) (m : Nat), ds = [fbD f d] ∧ f.length ≤ 1000 ∧ (∀ p ∈ f, p.2.length ≤ 1000) ∧ Th m d ∧ ((IsSay f d ∧ Q .non) ∨ (¬ IsSay f d ∧ E ⟨T.x_BadSaying.C, [("word", .str "BadSaying")]⟩))
theorem ov_look_saying (T : Top w K mg) : FnOk P w K mg base (L2.CX P w) 15 T.look_saying.a T.look_saying.fd ["saying"] (spV K 0 1 (m_look_saying T)) := by
  refine T.look_saying.F.okX sc_look_saying (spV_len rfl) (fun cdv A outer s H vs Q E hr h => ?_)
  refine ⟨_, (pss_one (ps_if (pt_not (pt_val (pe_call (ov_is_saying T) (hr.mono (by decide)) rfl T.is_saying.g T.is_saying.F.kp T.is_saying.b .nil (passes_call (takes_of rfl rfl rfl rfl) (fun _ _ _ _ h => h)) (pa_cons (pv 0) pa_nil)))) (pss_one (ps_raise0 K rfl (takes_of rfl rfl rfl rfl) (pmk_oex0 T.x_BadSaying.oex T.x_BadSaying.iC T.x_BadSaying.tI (ok_BadSaying_init T) (hr.mono (by decide)) T.x_BadSaying.b .nil passL rfl T.x_BadSaying.gC))) pss_nil)), ?_⟩
  refine fnV rfl h (fun ds Q0 E0 hl hm => ?_)
  obtain ⟨f, d, m, rfl, hf, hx, hT, q⟩ := hm
  show vIf _ _ _ ⟨_, _, _, _, _⟩ [.fz (fbD f d)]
  walk_at "v"
  refine ⟨f, d, m, rfl, hf, hx, hT, fun r hr => ?_⟩
  rcases q with ⟨h, q⟩ | ⟨h, q⟩
  · rw [hr.mpr h]
    walk_at "v"
    exact q
  · have e2 : r = false := by cases r with | false => rfl | true => exact absurd (hr.mp rfl) h
    rw [e2]
    walk_at "v"
    exact ⟨er_BadSaying T, q⟩
theorem say_fb (s : Say) : sayD s = fbD (s.front.map fun p => (wordS p.1, p.2)) (bD s.body) := by
  simp only [fbD, sayD]
  rw [List.map_map]
  rfl
theorem v_look_saying {T : Top w K mg} {s : Say} {Q : D → Prop} {E : Er → Prop} (h : SayOk 4 4 s) (q : Q .non) : m_look_saying T [sayD s] Q E := by
  rw [say_fb]
  refine ⟨_, _, _, rfl, ?_, fun p hp => ?_, th_bD s.body, .inl ⟨⟨s, h, (say_fb s).symm⟩, q⟩⟩
  · rw [List.length_map]
    have := h.len
    omega
  · obtain ⟨r, hr, rfl⟩ := List.mem_map.mp hp
    have := (h.nm r hr).2.1
    show r.2.length ≤ 1000
    omega
local macro_rules | `(tactic| walk_at "vcall") => `(tactic| ((with_reducible refine' v_look_saying ?e1 ?_); (case e1 => assumption)))
/-! ### within -/
/-! how bodies are written -/
theorem sx_assoc (a b c : Str) : (a ++ b) ++ c = a ++ (b ++ c) := tl_ext (by rw [tl_app, tl_app, tl_app, tl_app, List.append_assoc])
theorem sx_nil (a : Str) : Str.empty ++ a = a := tl_ext (by rw [tl_app]; rfl)
theorem sx_len (a b : Str) : (a ++ b).length = a.length + b.length := by rw [tl_len, tl_app, List.length_append, ← tl_len, ← tl_len]
theorem sl_0 : Str.empty.length = 0 := rfl
theorem sl_a : (("!" : Str)).length = 1 := rfl
theorem sl_b : (("(" : Str)).length = 1 := rfl
theorem sl_c : ((")" : Str)).length = 1 := rfl
theorem sl_d : ((" & " : Str)).length = 3 := rfl
theorem sl_e : ((" | " : Str)).length = 3 := rfl
theorem sl_f : ((" " : Str)).length = 1 := rfl
theorem sl_g : (("&" : Str)).length = 1 := rfl
theorem sl_h : (("|" : Str)).length = 1 := rfl
theorem sl_i : ((" : " : Str)).length = 3 := rfl
local macro_rules | `(tactic| walk_at "slen") => `(tactic| (simp only [sx_len, sx_nil, sl_0, sl_a, sl_b, sl_c, sl_d, sl_e, sl_f, sl_g, sl_h, sl_i]; omega))
local macro_rules | `(tactic| walk_at "vtxt") => `(tactic| (repeat ((first | refine ⟨by omega, ?_⟩ | refine ⟨by walk_at "slen", ?_⟩); walk_at "v")))
def brk (p : Bool) (s : Str) : Str := if p = true then "(" ++ s ++ ")" else s
def Bd.band : Bd → Int
  | .orr _ _ => 0
  | .an _ _ => 1
  | .nt _ => 2
  | .nm _ => 3
def Bd.txt : Bd → Str
  | .nm x => x
  | .nt b => "!" ++ brk (decide (b.band < 2)) b.txt
  | .an b c => brk (decide (b.band < 1)) b.txt ++ " & " ++ brk (decide (c.band < 2)) c.txt
  | .orr b c => b.txt ++ " | " ++ brk (decide (c.band < 1)) c.txt
/-- a body that is not too great to be written -/
def Bd.sm (b : Bd) : Prop := b.parts ≤ 1000 ∧ ∀ x ∈ b.names, x.length ≤ 10
theorem brk_le (p : Bool) (s : Str) : (brk p s).length ≤ s.length + 2 := by
  unfold brk
  split
  · rw [sx_len, sx_len]
    have h1 : ((("(" : Str))).length = 1 := rfl
    have h2 : (((")" : Str))).length = 1 := rfl
    omega
  · omega
theorem txt_le : ∀ b : Bd, (∀ x ∈ b.names, x.length ≤ 10) → b.txt.length + 2 ≤ 12 * b.parts
  | .nm x, h => by
    have := h x (by simp [Bd.names])
    show x.length + 2 ≤ 12 * 1
    omega
  | .nt b, h => by
    have h1 := txt_le b h
    have h2 := brk_le (decide (b.band < 2)) b.txt
    show ((("!" : Str)) ++ brk (decide (b.band < 2)) b.txt).length + 2 ≤ 12 * (b.parts + 1)
    rw [sx_len, show ((("!" : Str))).length = 1 from rfl]
    omega
  | .an b c, h => by
    have h1 := txt_le b fun x hx => h x (List.mem_append_left _ hx)
    have h3 := txt_le c fun x hx => h x (List.mem_append_right _ hx)
    have h2 := brk_le (decide (b.band < 1)) b.txt
    have h4 := brk_le (decide (c.band < 2)) c.txt
    show (brk (decide (b.band < 1)) b.txt ++ ((" & " : Str)) ++ brk (decide (c.band < 2)) c.txt).length + 2 ≤ 12 * (b.parts + c.parts + 1)
    rw [sx_len, sx_len, show (((" & " : Str))).length = 3 from rfl]
    omega
  | .orr b c, h => by
    have h1 := txt_le b fun x hx => h x (List.mem_append_left _ hx)
    have h3 := txt_le c fun x hx => h x (List.mem_append_right _ hx)
    have h4 := brk_le (decide (c.band < 1)) c.txt
    show (b.txt ++ ((" | " : Str)) ++ brk (decide (c.band < 1)) c.txt).length + 2 ≤ 12 * (b.parts + c.parts + 1)
    rw [sx_len, sx_len, show (((" | " : Str))).length = 3 from rfl]
    omega
theorem Bd.sm.le {b : Bd} (h : b.sm) : b.txt.length ≤ 12000 := by
  have := txt_le b h.2
  have := h.1
  omega
theorem Bd.sm.nt {b : Bd} (h : (Bd.nt b).sm) : b.sm := ⟨by have := h.1; simp only [Bd.parts] at this; omega, h.2⟩
theorem Bd.sm.an {b c : Bd} (h : (Bd.an b c).sm) : b.sm ∧ c.sm := ⟨⟨by have := h.1; simp only [Bd.parts] at this; omega, fun x hx => h.2 x (List.mem_append_left _ hx)⟩, ⟨by have := h.1; simp only [Bd.parts] at this; omega, fun x hx => h.2 x (List.mem_append_right _ hx)⟩⟩
theorem Bd.sm.orr {b c : Bd} (h : (Bd.orr b c).sm) : b.sm ∧ c.sm := ⟨⟨by have := h.1; simp only [Bd.parts] at this; omega, fun x hx => h.2 x (List.mem_append_left _ hx)⟩, ⟨by have := h.1; simp only [Bd.parts] at this; omega, fun x hx => h.2 x (List.mem_append_right _ hx)⟩⟩
def Bd.wd : Bd → Str
  | .nm _ => "name"
  | .nt _ => "not"
  | .an _ _ => "and"
  | .orr _ _ => "or"
theorem ix_wd {b : Bd} {Q : D → Prop} {E : Er → Prop} (q : Q (.str b.wd)) : ixM (bD b) (.int 0) Q E := by
  cases b <;> exact ⟨_, rfl, q⟩
theorem wd_two (b : Bd) : b.wd ∈ [("and" : Str), "or"] ↔ b.band < 2 := by
  cases b with
  | nm x => exact (by decide : ("name" : Str) ∈ [("and" : Str), "or"] ↔ (3 : Int) < 2)
  | nt b => exact (by decide : ("not" : Str) ∈ [("and" : Str), "or"] ↔ (2 : Int) < 2)
  | an b c => exact (by decide : ("and" : Str) ∈ [("and" : Str), "or"] ↔ (1 : Int) < 2)
  | orr b c => exact (by decide : ("or" : Str) ∈ [("and" : Str), "or"] ↔ (0 : Int) < 2)
theorem wd_one (b : Bd) : b.wd = "or" ↔ b.band < 1 := by
  cases b with
  | nm x => exact (by decide : ("name" : Str) = "or" ↔ (3 : Int) < 1)
  | nt b => exact (by decide : ("not" : Str) = "or" ↔ (2 : Int) < 1)
  | an b c => exact (by decide : ("and" : Str) = "or" ↔ (1 : Int) < 1)
  | orr b c => exact (by decide : ("or" : Str) = "or" ↔ (0 : Int) < 1)
/-- the front as it is written -/
def frT (f : List (Bool × Str)) : Str := Str.join " " (f.map fun p => wordS p.1 ++ " " ++ p.2)
def Say.txt (s : Say) : Str := frT s.front ++ " : " ++ s.body.txt
theorem SayOk.sm {m t : Nat} {s : Say} (h : SayOk m t s) : s.body.sm := ⟨by have := h.parts; omega, fun x hx => by
  obtain ⟨p, hp, e⟩ := List.mem_map.mp (h.nms x hx)
  have := (h.nm p hp).2.1
  rw [← e]
  omega⟩
theorem join_le (a : Str) : ∀ ys : List Str, (Str.join a ys).length ≤ (ys.map (·.length)).sum + ys.length * a.length
  | [] => Nat.zero_le _
  | [y] => by
    show y.length ≤ ([y].map (·.length)).sum + [y].length * a.length
    simp
  | x :: z :: r => by
    have ih := join_le a (z :: r)
    show (x ++ a ++ Str.join a (z :: r)).length ≤ _
    rw [sx_len, sx_len, List.map_cons, List.sum_cons, List.length_cons (a := x), Nat.add_mul]
    omega
theorem frT_le {m t : Nat} {s : Say} (h : SayOk m t s) (hm : m ≤ 4 := by omega) : ((s.front.map fun p => wordS p.1 ++ " " ++ p.2).map (·.length)).sum + (s.front.map fun p => wordS p.1 ++ " " ++ p.2).length * ((" " : Str)).length ≤ 100000 ∧ (frT s.front).length ≤ 1000 := by
  have hl := h.len
  have go : ∀ f : List (Bool × Str), (∀ p ∈ f, NmOk p.2) → ((f.map fun p => wordS p.1 ++ " " ++ p.2).map (·.length)).sum ≤ 11 * f.length := by
    intro f hf
    induction f with
    | nil => exact Nat.zero_le _
    | cons p f ih =>
      have h1 := ih fun q hq => hf q (List.mem_cons_of_mem _ hq)
      have h2 := (hf p List.mem_cons_self).2.1
      have h3 : (wordS p.1).length ≤ 4 := by cases p.1 <;> decide
      rw [List.map_cons, List.map_cons, List.sum_cons, sx_len, sx_len, sl_f, List.length_cons]
      omega
  have h1 := go s.front h.nm
  have h2 := join_le " " (s.front.map fun p => wordS p.1 ++ " " ++ p.2)
  rw [sl_f, List.length_map] at *
  refine ⟨by omega, ?_⟩
  show (Str.join " " (s.front.map fun p => wordS p.1 ++ " " ++ p.2)).length ≤ 1000
  omega

def m_body_text (T : Top w K mg) : Nat → List D → M
  | 0 => fun _ _ _ => False
  | n + 1 => fun ds Q _ => ∃ b : Bd, ds = [bD b] ∧ b.deep ≤ n ∧ b.sm ∧ Q (.str b.txt)
def m_within (T : Top w K mg) (n : Nat) : List D → M := fun ds Q _ => ∃ (b : Bd) (least : Int), ds = [bD b, .int least] ∧ b.deep + 1 ≤ n ∧ b.sm ∧ Q (.str (brk (decide (b.band < least)) b.txt))
theorem ov_within_n (T : Top w K mg) (n : Nat) (ih : FnOk P w K mg base (L2.CX P w) (2 * n + 2 + 1) T.body_text.a T.body_text.fd ["body"] (spV K 0 1 (m_body_text T n))) : FnOk P w K mg base (L2.CX P w) (2 * n + 2 + 1 + 1) T.within.a T.within.fd ["body", "least"] (spV K 0 2 (m_within T n)) := by
  refine T.within.F.okX sc_within (spV_len rfl) (fun cdv A outer s H vs Q E hr h => ?_)
  refine ⟨_, (pss_cons (ps_set (i := 2) sc_within.nd rfl (Or.inl rfl) (pe_call ih hr rfl T.body_text.g T.body_text.F.kp T.body_text.b .nil (passes_call (takes_of rfl rfl rfl rfl) (fun _ _ _ _ h => h)) (pa_cons (pv 0) pa_nil)))
    (pss_one (ps_ret (pe_ifExp (pt_cmpR op_lt (pe_dtop T.q_BANDS (pe_glob (v := .ref T.a_BANDS) rfl T.c_BANDS rfl) (pe_ix (ix_QK K rfl) (pv 0) pe_int (fun _ _ => rfl)) (fun _ _ => rfl)) (pv 1) (nomark _)) (pe_fs (PJ.cons pe_str (PJ.cons (pe_fmt (pv 2)) (PJ.cons pe_str PJ.nil)))) (pv 2))))), ?_⟩
  refine fnV rfl h (fun ds Q0 E0 hl hm => ?_)
  obtain ⟨b, least, rfl, hd, hs, q⟩ := hm
  obtain ⟨n, rfl⟩ : ∃ k, n = k + 1 := ⟨n - 1, by omega⟩
  have hle := hs.le
  show vSeq _ _ ⟨_, _, _, _, _⟩ [.fz (bD b), .fz (.int least), .no]
  walk_at "v"
  refine ⟨b, rfl, by omega, hs, ?_⟩
  have hb : ∃ wd ds, bD b = .tup (.str wd :: ds) ∧ (valV ([(.inr "or", .int 0), (.inr "and", .int 1), (.inr "not", .int 2), (.inr "name", .int 3)] : List (Key × V)) (.inr wd)).bind scD = some (.int b.band) := by
    cases b with
    | nm x => exact ⟨_, _, rfl, rfl⟩
    | nt b => exact ⟨_, _, rfl, rfl⟩
    | an b c => exact ⟨_, _, rfl, rfl⟩
    | orr b c => exact ⟨_, _, rfl, rfl⟩
  obtain ⟨wd, ds, e1, e2⟩ := hb
  rw [e1]
  walk_at "v"
  refine dTop_go e2 ?_
  unfold brk at q
  walk_at "v"
  · rename_i h
    rw [decide_eq_true h, if_pos rfl] at q
    walk_at "vtxt"
    rw [sx_nil]
    exact q
  · rename_i h
    rw [decide_eq_false h, if_neg (by decide)] at q
    exact q
/-! ### body_text -/

theorem ov_body_text_n (T : Top w K mg) : ∀ n : Nat, FnOk P w K mg base (L2.CX P w) (2 * n + 2 + 1) T.body_text.a T.body_text.fd ["body"] (spV K 0 1 (m_body_text T n))
  | 0 => by
    refine T.body_text.F.okX sc_body_text (spV_len rfl) (fun cdv A outer s H vs Q E hr h => ?_)
    obtain ⟨ds, _, _, Q0, E0, hm, _⟩ := h
    exact hm.elim
  | n + 1 => by
    have ih := ov_within_n T n (ov_body_text_n T n)
    refine T.body_text.F.okX sc_body_text (spV_len rfl) (fun cdv A outer s H vs Q E hr h => ?_)
    refine ⟨_, (pss_cons (ps_asg (pv 0) (pg_star K rfl rfl (pgs_cons (pg_name (i := 1) sc_body_text.nd rfl (by first | exact Or.inl rfl | exact Or.inr rfl)) (pgs_starC (pg_name (i := 2) sc_body_text.nd rfl (by first | exact Or.inl rfl | exact Or.inr rfl)) pgs_nil))))
    (pss_cons (ps_if (pt_cmpR (op_eqX K rfl hr) (pv 1) pe_str (nomark _)) (pss_one (ps_ret (pe_ix (ix_QK K rfl) (pv 2) pe_int (fun _ _ => rfl)))) pss_nil)
    (pss_cons (ps_if (pt_cmpR (op_eqX K rfl hr) (pv 1) pe_str (nomark _)) (pss_one (ps_ret (pe_fs (PJ.cons pe_str (PJ.cons (pe_fmt (pe_call ih hr rfl T.within.g T.within.F.kp T.within.b .nil (passes_call (takes_of rfl rfl rfl rfl) (fun _ _ _ _ h => h)) (pa_cons (pe_ix (ix_QK K rfl) (pv 2) pe_int (fun _ _ => rfl)) (pa_cons pe_int pa_nil)))) PJ.nil))))) pss_nil)
    (pss_cons (ps_set (i := 3) sc_body_text.nd rfl (Or.inl rfl) (pe_dtop T.q_BANDS (pe_glob (v := .ref T.a_BANDS) rfl T.c_BANDS rfl) (pv 1) (fun _ _ => rfl)))
    (pss_one (ps_ret (pe_fs (PJ.cons (pe_fmt (pe_call ih hr rfl T.within.g T.within.F.kp T.within.b .nil (passes_call (takes_of rfl rfl rfl rfl) (fun _ _ _ _ h => h)) (pa_cons (pe_ix (ix_QK K rfl) (pv 2) pe_int (fun _ _ => rfl)) (pa_cons (pv 3) pa_nil)))) (PJ.cons pe_str (PJ.cons (pe_fmt (pe_dtop T.q_JOINTS (pe_glob (v := .ref T.a_JOINTS) rfl T.c_JOINTS rfl) (pv 1) (fun _ _ => rfl))) (PJ.cons pe_str (PJ.cons (pe_fmt (pe_call ih hr rfl T.within.g T.within.F.kp T.within.b .nil (passes_call (takes_of rfl rfl rfl rfl) (fun _ _ _ _ h => h)) (pa_cons (pe_ix (ix_QK K rfl) (pv 2) pe_int (fun _ _ => rfl)) (pa_cons (pe_op (op_addX K rfl) (pv 3) pe_int) pa_nil)))) PJ.nil)))))))))))), ?_⟩
    refine fnV rfl h (fun ds Q0 E0 hl hm => ?_)
    obtain ⟨b, rfl, hd, hs, q⟩ := hm
    have hle := hs.le
    cases b with
    | nm x =>
      show vSeq _ _ ⟨_, _, _, _, _⟩ [.fz (.tup [.str "name", .str x]), .no, .no, .no]
      walk_at "v"
      exact q
    | nt b =>
      simp only [Bd.deep] at hd
      show vSeq _ _ ⟨_, _, _, _, _⟩ [.fz (.tup [.str "not", bD b]), .no, .no, .no]
      walk_at "v"
      refine ⟨b, 2, rfl, by omega, hs.nt, ?_⟩
      have h1 := hs.nt.le
      have h2 := brk_le (decide (b.band < 2)) b.txt
      generalize hz : brk (decide (b.band < 2)) b.txt = z at h2
      have q : Q0 (.str ("!" ++ z)) := by rw [← hz]; exact q
      walk_at "v"
      walk_at "vtxt"
      rw [sx_nil]
      exact q
    | an b c =>
      simp only [Bd.deep] at hd
      show vSeq _ _ ⟨_, _, _, _, _⟩ [.fz (.tup [.str "and", bD b, bD c]), .no, .no, .no]
      obtain ⟨g1, g2⟩ := hs.an
      have h1 := g1.le
      have h3 := g2.le
      have h2 := brk_le (decide (b.band < 1)) b.txt
      have h4 := brk_le (decide (c.band < 2)) c.txt
      generalize hz : brk (decide (b.band < 1)) b.txt = z at h2
      generalize hy : brk (decide (c.band < 2)) c.txt = y at h4
      have q : Q0 (.str (z ++ " & " ++ y)) := by rw [← hz, ← hy]; exact q
      walk_at "v"
      refine dTop_go (d := .int 1) rfl ?_
      walk_at "v"
      refine ⟨b, 1, rfl, by omega, g1, ?_⟩
      rw [hz]
      walk_at "v"
      walk_at "vtxt"
      refine dTop_go (d := .str "&") rfl ?_
      walk_at "v"
      walk_at "vtxt"
      refine ⟨2, rfl, by omega, g2, ?_⟩
      rw [hy]
      walk_at "v"
      walk_at "vtxt"
      rw [sx_nil, sx_assoc z, sx_assoc z]
      exact q
    | orr b c =>
      simp only [Bd.deep] at hd
      show vSeq _ _ ⟨_, _, _, _, _⟩ [.fz (.tup [.str "or", bD b, bD c]), .no, .no, .no]
      obtain ⟨g1, g2⟩ := hs.orr
      have h1 := g1.le
      have h3 := g2.le
      have h2 : brk (decide (b.band < 0)) b.txt = b.txt := by
        unfold brk
        rw [if_neg]
        cases b <;> (intro z; simp [Bd.band] at z)
      have h4 := brk_le (decide (c.band < 1)) c.txt
      generalize hy : brk (decide (c.band < 1)) c.txt = y at h4
      have q : Q0 (.str (b.txt ++ " | " ++ y)) := by rw [← hy]; exact q
      walk_at "v"
      refine dTop_go (d := .int 0) rfl ?_
      walk_at "v"
      refine ⟨b, 0, rfl, by omega, g1, ?_⟩
      rw [h2]
      generalize b.txt = z at h1 q
      walk_at "v"
      walk_at "vtxt"
      refine dTop_go (d := .str "|") rfl ?_
      walk_at "v"
      walk_at "vtxt"
      refine ⟨1, rfl, by omega, g2, ?_⟩
      rw [hy]
      walk_at "v"
      walk_at "vtxt"
      rw [sx_nil, sx_assoc z, sx_assoc z]
      exact q
theorem ov_body_text (T : Top w K mg) : FnOk P w K mg base (L2.CX P w) (2 * 8 + 2 + 1) T.body_text.a T.body_text.fd ["body"] (spV K 0 1 (m_body_text T 8)) := ov_body_text_n T 8
theorem v_body_text {T : Top w K mg} {b : Bd} {Q : D → Prop} {E : Er → Prop} (hd : b.deep ≤ 7) (hs : b.sm) (q : Q (.str b.txt)) : m_body_text T 8 [bD b] Q E := ⟨b, rfl, hd, hs, q⟩
/-! ### saying_text -/
def m_saying_text (T : Top w K mg) : List D → M := fun ds Q E => ∃ (f : List (Str × Str)) (d : D) (m : Nat), ds = [fbD f d] ∧ f.length ≤ 1000 ∧ (∀ p ∈ f, p.2.length ≤ 1000) ∧ Th m d ∧ ((∃ s : Say, SayOk 4 4 s ∧ fbD f d = sayD s ∧ Q (.str s.txt)) ∨ (¬ IsSay f d ∧ E ⟨T.x_BadSaying.C, [("word", .str "BadSaying")]⟩))
theorem wordS_le (b : Bool) : (wordS b).length ≤ 4 := by cases b <;> decide
theorem ov_saying_text (T : Top w K mg) : FnOk P w K mg base (L2.CX P w) 21 T.saying_text.a T.saying_text.fd ["saying"] (spV K 0 1 (m_saying_text T)) := by
  refine T.saying_text.F.okX sc_saying_text (spV_len rfl) (fun cdv A outer s H vs Q E hr h => ?_)
  refine ⟨_, (pss_cons (ps_expr (pe_call (ov_look_saying T) (hr.mono (by decide)) rfl T.look_saying.g T.look_saying.F.kp T.look_saying.b .nil (passes_call (takes_of rfl rfl rfl rfl) (fun _ _ _ _ h => h)) (pa_cons (pv 0) pa_nil)))
    (pss_cons (ps_set (i := 1) sc_saying_text.nd rfl (Or.inl rfl) (pe_joinT K rfl pe_str (pe_lcV (own := [("word", 2), ("name", 3)]) [2, 3] rfl sc_saying_text.nd (pi_seqK K rfl (pe_ix (ix_QK K rfl) (pv 0) pe_int (fun _ _ => rfl))) (blkOk_by (own := [("word", 2), ("name", 3)]) (N := ["saying", "front", "word", "name"]) (sc := defScope s_saying_text) (by decide +kernel)) (fun _ _ _ _ _ => (pg_tupK (n := 2) K rfl rfl (pgs_cons (pg_name (i := 2) sc_saying_text.nd rfl (by first | exact Or.inl rfl | exact Or.inr rfl)) (pgs_cons (pg_name (i := 3) sc_saying_text.nd rfl (by first | exact Or.inl rfl | exact Or.inr rfl)) pgs_nil)))) (fun _ _ _ _ _ => pts_nil) (fun _ _ _ _ _ => (pe_hid (pe_fs (PJ.cons (pe_fmt (pv 2)) (PJ.cons pe_str (PJ.cons (pe_fmt (pv 3)) PJ.nil)))))))))
    (pss_one (ps_ret (pe_fs (PJ.cons (pe_fmt (pv 1)) (PJ.cons pe_str (PJ.cons (pe_fmt (pe_call (ov_body_text T) (hr.mono (by decide)) rfl T.body_text.g T.body_text.F.kp T.body_text.b .nil (passes_call (takes_of rfl rfl rfl rfl) (fun _ _ _ _ h => h)) (pa_cons (pe_ix (ix_QK K rfl) (pv 0) pe_int (fun _ _ => rfl)) pa_nil))) PJ.nil)))))))), ?_⟩
  refine fnV rfl h (fun ds Q0 E0 hl hm => ?_)
  obtain ⟨f, d, m, rfl, hf, hx, hT, q⟩ := hm
  show vSeq _ _ ⟨_, _, _, _, _⟩ [.fz (fbD f d), .no, .no, .no]
  rcases q with ⟨s, hs, e, q⟩ | ⟨h, q⟩
  · rw [e]
    walk_at "v"
    have hfl := hs.len
    have hle := hs.sm.le
    refine ⟨by rw [List.length_map]; omega, ?_⟩
    refine mapV_map frD (fun p => .str (wordS p.1 ++ " " ++ p.2)) (fun p hp Q' hQ => ?_) ?_
    · have h1 := wordS_le p.1
      have h2 := (hs.nm p hp).2.1
      show elV _ _ _ _ (.tup [.str (wordS p.1), .str p.2]) _ _
      walk_at "v"
      walk_at "vtxt"
      rw [sx_nil]
      exact hQ
    · have hj := frT_le hs
      rw [show List.map (fun p : Bool × Str => D.str (wordS p.1 ++ " " ++ p.2)) s.front = List.map D.str (s.front.map fun p => wordS p.1 ++ " " ++ p.2) by rw [List.map_map]; rfl]
      refine joinM_ok hj.1 ?_
      have hj2 := hj.2
      have e2 : Str.join " " (s.front.map fun p => wordS p.1 ++ " " ++ p.2) = frT s.front := rfl
      rw [e2]
      walk_at "v"
      walk_at "vtxt"
      refine v_body_text (by have := hs.deep; omega) hs.sm ?_
      walk_at "v"
      walk_at "vtxt"
      rw [sx_nil]
      exact q
  · walk_at "v"
    refine ⟨f, d, m, rfl, hf, hx, hT, .inr ⟨h, q⟩⟩
theorem v_saying_text {T : Top w K mg} {s : Say} {Q : D → Prop} {E : Er → Prop} (h : SayOk 4 4 s) (q : Q (.str s.txt)) : m_saying_text T [sayD s] Q E := by
  have hl := h.len
  refine ⟨_, _, _, by rw [say_fb], ?_, fun p hp => ?_, th_bD s.body, .inl ⟨s, h, (say_fb s).symm, q⟩⟩
  · rw [List.length_map]
    omega
  · obtain ⟨r, hr, rfl⟩ := List.mem_map.mp hp
    have := (h.nm r hr).2.1
    show r.2.length ≤ 1000
    omega
local macro_rules | `(tactic| walk_at "vcall") => `(tactic| ((with_reducible refine' v_saying_text ?e1 ?_); (case e1 => assumption)))
/-! ### worth_in -/
def m_worth_in (T : Top w K mg) : Nat → List D → M
  | 0 => fun _ _ _ => False
  | n + 1 => fun ds Q _ => ∃ (b : Bd) (ks : List Key) (vs : List D) (val : Str → Int) (p : Int), ds = [bD b, .dct ks vs, .int p] ∧ b.deep ≤ n ∧ (∀ x ∈ b.names, lookD ks vs (.inr x) = some (.int (val x)) ∧ (val x).natAbs ≤ 1000) ∧ (1 ≤ p ∧ p ≤ 1000) ∧ Q (.int (b.worth p val))
theorem ov_worth_in_n (T : Top w K mg) : ∀ n : Nat, FnOk P w K mg base (L2.CX P w) (1 + n + 1) T.worth_in.a T.worth_in.fd ["body", "values", "prime"] (spV K 0 3 (m_worth_in T n))
  | 0 => by
    refine T.worth_in.F.okX sc_worth_in (spV_len rfl) (fun cdv A outer s H vs Q E hr h => ?_)
    obtain ⟨ds, _, _, Q0, E0, hm, _⟩ := h
    exact hm.elim
  | n + 1 => by
    have ih := ov_worth_in_n T n
    refine T.worth_in.F.okX sc_worth_in (spV_len rfl) (fun cdv A outer s H vs Q E hr h => ?_)
    refine ⟨_, (pss_cons (ps_asg (pv 0) (pg_star K rfl rfl (pgs_cons (pg_name (i := 3) sc_worth_in.nd rfl (by first | exact Or.inl rfl | exact Or.inr rfl)) (pgs_starC (pg_name (i := 4) sc_worth_in.nd rfl (by first | exact Or.inl rfl | exact Or.inr rfl)) pgs_nil))))
    (pss_cons (ps_if (pt_cmpR (op_eqX K rfl hr) (pv 3) pe_str (nomark _)) (pss_one (ps_ret (pe_dget (room1 hr) (pv 1) (pe_ix (ix_QK K rfl) (pv 4) pe_int (fun _ _ => rfl)) (fun _ _ => rfl)))) pss_nil)
    (pss_cons (ps_setLcV (i := 5) (own := [("one", 7)]) [7] rfl sc_worth_in.nd rfl rfl (sw_true rfl rfl rfl (by decide +kernel)) (pi_seqK K rfl (pv 4)) (blkOk_by (own := [("one", 7)]) (N := ["body", "values", "prime", "word", "rest", "worths", "both", "one"]) (sc := defScope s_worth_in) (by decide +kernel)) (fun _ _ _ _ _ => (pg_name (i := 7) sc_worth_in.nd rfl (by first | exact Or.inl rfl | exact Or.inr rfl))) (fun _ _ _ _ _ => pts_nil) (fun _ _ _ _ _ => (pe_hid (pe_call ih hr rfl T.worth_in.g T.worth_in.F.kp T.worth_in.b .nil passL (pa_cons (pv 7) (pa_cons (pv 1) (pa_cons (pv 2) pa_nil)))))))
    (pss_cons (ps_if (pt_cmpR (op_eqX K rfl hr) (pv 3) pe_str (nomark _)) (pss_one (ps_ret (pe_op op_mod (pe_op op_sub pe_int (pe_ix (ix_QK K rfl) (pv 5) pe_int (fun _ _ => rfl))) (pv 2)))) pss_nil)
    (pss_cons (ps_set (i := 6) sc_worth_in.nd rfl (Or.inl rfl) (pe_op op_mulX (pe_ix (ix_QK K rfl) (pv 5) pe_int (fun _ _ => rfl)) (pe_ix (ix_QK K rfl) (pv 5) pe_int (fun _ _ => rfl))))
    (pss_one (ps_ret (pe_ifExp (pt_cmpR (op_eqX K rfl hr) (pv 3) pe_str (nomark _)) (pe_op op_mod (pv 6) (pv 2)) (pe_op op_mod (pe_op op_sub (pe_op (op_addX K rfl) (pe_ix (ix_QK K rfl) (pv 5) pe_int (fun _ _ => rfl)) (pe_ix (ix_QK K rfl) (pv 5) pe_int (fun _ _ => rfl))) (pv 6)) (pv 2)))))))))), ?_⟩
    refine fnV rfl h (fun ds Q0 E0 hl hm => ?_)
    obtain ⟨b, ks, vs, val, p, rfl, hd, hv, hp, q⟩ := hm
    have hle : ∀ c : Bd, (∀ x ∈ c.names, x ∈ b.names) → (c.worth p val).natAbs ≤ 1000 := fun c hc => Bd.worth_le hp fun x hx => (hv x (hc x hx)).2
    have call : ∀ (c : Bd) (Q' : D → Prop) (E' : Er → Prop), (∀ x ∈ c.names, x ∈ b.names) → c.deep + 1 ≤ b.deep → Q' (.int (c.worth p val)) → m_worth_in T n [bD c, .dct ks vs, .int p] Q' E' := fun c Q' E' h1 h2 q' => by
      obtain ⟨n, rfl⟩ : ∃ k, n = k + 1 := ⟨n - 1, by omega⟩
      exact ⟨c, ks, vs, val, p, rfl, by omega, fun x hx => hv x (h1 x hx), hp, q'⟩
    cases b with
    | nm x =>
      show vSeq _ _ ⟨_, _, _, _, _⟩ [.fz (.tup [.str "name", .str x]), .fz (.dct ks vs), .fz (.int p), .no, .no, .no, .no, .no]
      walk_at "v"
      exact dg_ok rfl (hv x (by simp [Bd.names])).1 q
    | nt b =>
      show vSeq _ _ ⟨_, _, _, _, _⟩ [.fz (.tup [.str "not", bD b]), .fz (.dct ks vs), .fz (.int p), .no, .no, .no, .no, .no]
      walk_at "v"
      refine call b _ _ (fun _ h => h) (by simp only [Bd.deep]; omega) ?_
      walk_at "v"
      exact q
    | an b c =>
      show vSeq _ _ ⟨_, _, _, _, _⟩ [.fz (.tup [.str "and", bD b, bD c]), .fz (.dct ks vs), .fz (.int p), .no, .no, .no, .no, .no]
      have l1 := hle b fun x hx => List.mem_append_left _ hx
      have l2 := hle c fun x hx => List.mem_append_right _ hx
      walk_at "v"
      refine call b _ _ (fun x hx => List.mem_append_left _ hx) (by simp only [Bd.deep]; omega) ?_
      walk_at "v"
      refine call c _ _ (fun x hx => List.mem_append_right _ hx) (by simp only [Bd.deep]; omega) ?_
      walk_at "v"
      exact q
    | orr b c =>
      show vSeq _ _ ⟨_, _, _, _, _⟩ [.fz (.tup [.str "or", bD b, bD c]), .fz (.dct ks vs), .fz (.int p), .no, .no, .no, .no, .no]
      have l1 := hle b fun x hx => List.mem_append_left _ hx
      have l2 := hle c fun x hx => List.mem_append_right _ hx
      walk_at "v"
      refine call b _ _ (fun x hx => List.mem_append_left _ hx) (by simp only [Bd.deep]; omega) ?_
      walk_at "v"
      refine call c _ _ (fun x hx => List.mem_append_right _ hx) (by simp only [Bd.deep]; omega) ?_
      walk_at "v"
      exact q
theorem ov_worth_in (T : Top w K mg) : FnOk P w K mg base (L2.CX P w) (10) T.worth_in.a T.worth_in.fd ["body", "values", "prime"] (spV K 0 3 (m_worth_in T 8)) := ov_worth_in_n T 8

/-! ### names_in -/
def m_names_in (T : Top w K mg) : List D → M := fun ds Q _ => ∃ s : Say, ds = [sayD s] ∧ s.front.length ≤ 1000 ∧ Q (.tup (s.nm.map D.str))
theorem ov_names_in (T : Top w K mg) : FnOk P w K mg base (L2.CX P w) 1 T.names_in.a T.names_in.fd ["saying"] (spV K 0 1 (m_names_in T)) := by
  refine T.names_in.F.okX sc_names_in (spV_len rfl) (fun cdv A outer s H vs Q E hr h => ?_)
  refine ⟨_, (pss_one (ps_ret (pe_callTy (call_tupQK K rfl) (by rfl) T.z_tuple (by decide +kernel) (pa_cons (pe_lcV (own := [("word", 1), ("name", 2)]) [1, 2] rfl sc_names_in.nd (pi_seqK K rfl (pe_ix (ix_QK K rfl) (pv 0) pe_int (fun _ _ => rfl))) (blkOk_by (own := [("word", 1), ("name", 2)]) (N := ["saying", "word", "name"]) (sc := defScope s_names_in) (by decide +kernel)) (fun _ _ _ _ _ => (pg_tupK (n := 2) K rfl rfl (pgs_cons (pg_name (i := 1) sc_names_in.nd rfl (by first | exact Or.inl rfl | exact Or.inr rfl)) (pgs_cons (pg_name (i := 2) sc_names_in.nd rfl (by first | exact Or.inl rfl | exact Or.inr rfl)) pgs_nil)))) (fun _ _ _ _ _ => pts_nil) (fun _ _ _ _ _ => (pe_hid (pv 2)))) pa_nil)))), ?_⟩
  refine fnV rfl h (fun ds Q0 E0 hl hm => ?_)
  obtain ⟨s, rfl, hl', q⟩ := hm
  show vRet _ ⟨_, _, _, _, _⟩ [.fz (.tup [.tup (s.front.map frD), bD s.body]), .no, .no]
  walk_at "v"
  refine mapV_map frD (fun p => .str p.2) (fun p hp Q' hQ => ?_) ?_
  · show elV _ _ _ _ (.tup [.str (wordS p.1), .str p.2]) _ _
    walk_at "v"
    exact hQ
  · have e : s.front.map (fun p => D.str p.2) = List.map D.str s.nm := by unfold Say.nm; rw [List.map_map]; rfl
    rw [e]
    walk_at "v"
    exact q
theorem v_names_in {T : Top w K mg} {s : Say} {Q : D → Prop} {E : Er → Prop} (h : s.front.length ≤ 1000) (q : Q (.tup (List.map D.str s.nm))) : m_names_in T [sayD s] Q E := ⟨s, rfl, h, q⟩
local macro_rules | `(tactic| walk_at "vcall") => `(tactic| ((with_reducible refine' v_names_in ?e1 ?_); (case e1 => omega)))
/-! ### body_at -/
def m_body_at (T : Top w K mg) : List D → M := fun ds Q _ => ∃ (s : Say) (c : Bool) (ns : List Int) (p : Int), ds = [sayD s, rowD c ns, .int p] ∧ SayOk 4 4 s ∧ ns.length = s.front.length ∧ (∀ x ∈ ns, x.natAbs ≤ 1000) ∧ (1 ≤ p ∧ p ≤ 1000) ∧ Q (.int (s.body.worth p (valOf s.nm ns)))
theorem ov_body_at (T : Top w K mg) : FnOk P w K mg base (L2.CX P w) 11 T.body_at.a T.body_at.fd ["saying", "place", "prime"] (spV K 0 3 (m_body_at T)) := by
  refine T.body_at.F.okX sc_body_at (spV_len rfl) (fun cdv A outer s H vs Q E hr h => ?_)
  refine ⟨_, (pss_one (ps_ret (pe_call (ov_worth_in T) (hr.mono (by decide)) rfl T.worth_in.g T.worth_in.F.kp T.worth_in.b .nil (passes_call (takes_of rfl rfl rfl rfl) (fun _ _ _ _ h => h)) (pa_cons (pe_ix (ix_QK K rfl) (pv 0) pe_int (fun _ _ => rfl)) (pa_cons (pe_dcV (own := [("name", 3), ("at", 4)]) [3, 4] rfl sc_body_at.nd (pi_zipQ K rfl (by rfl) T.z_zip (pa_cons (pe_call (ov_names_in T) (hr.mono (by decide)) rfl T.names_in.g T.names_in.F.kp T.names_in.b .nil (passes_call (takes_of rfl rfl rfl rfl) (fun _ _ _ _ h => h)) (pa_cons (pv 0) pa_nil)) (pa_cons (pv 1) pa_nil))) (blkOk_by (own := [("name", 3), ("at", 4)]) (N := ["saying", "place", "prime", "name", "at"]) (sc := defScope s_body_at) (by decide +kernel)) (fun _ _ _ _ _ => (pg_tupK (n := 2) K rfl rfl (pgs_cons (pg_name (i := 3) sc_body_at.nd rfl (by first | exact Or.inl rfl | exact Or.inr rfl)) (pgs_cons (pg_name (i := 4) sc_body_at.nd rfl (by first | exact Or.inl rfl | exact Or.inr rfl)) pgs_nil)))) (fun _ _ _ _ _ => pts_nil) (fun _ _ _ _ _ => (pv 3)) (fun _ _ _ _ _ => (pv 4))) (pa_cons (pv 2) pa_nil)))))), ?_⟩
  refine fnV rfl h (fun ds Q0 E0 hl hm => ?_)
  obtain ⟨s, c, ns, p, rfl, hs, hn, hx, hp, q⟩ := hm
  show vRet _ ⟨_, _, _, _, _⟩ [.fz (sayD s), .fz (rowD c ns), .fz (.int p), .no, .no]
  have hfl := hs.len
  have hnl : s.nm.length = ns.length := by unfold Say.nm; rw [List.length_map, hn]
  walk_at "v"
  rw [zip2_map D.str D.int]
  refine mapV_map _ (fun p : Str × Int => pairD (p.1, .int p.2)) (fun p hp Q' hQ => ?_) ?_
  · walk_at "v"
    exact hQ
  · refine ⟨(s.nm.zip ns).map fun p => (p.1, .int p.2), by rw [List.map_map]; rfl, ?_⟩
    rw [dct_zip (xs := s.nm) hs.nd hnl]
    walk_at "v"
    refine ⟨s.body, _, _, valOf s.nm ns, p, rfl, by have := hs.deep; show s.body.deep ≤ 7; omega, fun x hx' => ⟨valOf_look hnl (hs.nms x hx'), valOf_le hx⟩, hp, ?_⟩
    exact q
theorem v_body_at {T : Top w K mg} {s : Say} {x : D} {c : Bool} {ns : List Int} {p : Int} {Q : D → Prop} {E : Er → Prop} [r : RowC x c ns] (hs : SayOk 4 4 s) (hn : ns.length = s.front.length) (hx : ∀ x ∈ ns, x.natAbs ≤ 1000) (hp : 1 ≤ p ∧ p ≤ 1000) (q : Q (.int (s.body.worth p (valOf s.nm ns)))) : m_body_at T [sayD s, x, .int p] Q E := ⟨s, c, ns, p, by rw [r.eq], hs, hn, hx, hp, q⟩
local macro_rules | `(tactic| walk_at "vcall") => `(tactic| ((with_reducible refine' v_body_at ?e1 ?e2 ?e3 ?e4 ?_); (case e1 => assumption); (case e2 => assumption); (case e3 => assumption); (case e4 => exact ⟨by omega, by omega⟩)))
/-! ### holds -/
def m_holds (T : Top w K mg) : Nat → List D → M
  | 0 => fun _ _ _ => False
  | n + 1 => fun ds Q _ => ∃ (s : Say) (pl : List Int), ds = [sayD s, .tup (dI pl)] ∧ SayOk 4 4 s ∧ pl.length ≤ s.front.length ∧ s.front.length ≤ pl.length + n ∧ (∀ x ∈ pl, x.natAbs ≤ 1000) ∧ Q (.bl (s.holds pl))
theorem ov_holds_n (T : Top w K mg) : ∀ n : Nat, FnOk P w K mg base (L2.CX P w) (12 + n + 1) T.holds.a T.holds.fd ["saying", "place"] (spV K 0 2 (m_holds T n))
  | 0 => by
    refine T.holds.F.okX sc_holds (spV_len rfl) (fun cdv A outer s H vs Q E hr h => ?_)
    obtain ⟨ds, _, _, Q0, E0, hm, _⟩ := h
    exact hm.elim
  | n + 1 => by
    have ih := ov_holds_n T n
    refine T.holds.F.okX sc_holds (spV_len rfl) (fun cdv A outer s H vs Q E hr h => ?_)
    refine ⟨_, (pss_cons (ps_if (pt_cmpR (op_eqX K rfl hr) (pe_callB (call_lenQK K rfl) (by rfl) T.z_len (by decide +kernel) (pa_cons (pv 1) pa_nil)) (pe_callB (call_lenQK K rfl) (by rfl) T.z_len (by decide +kernel) (pa_cons (pe_ix (ix_QK K rfl) (pv 0) pe_int (fun _ _ => rfl)) pa_nil)) (nomark _)) (pss_one (ps_ret (pe_cmpR (op_eqX K rfl hr) (pe_call (ov_body_at T) (hr.mono (by omega)) rfl T.body_at.g T.body_at.F.kp T.body_at.b .nil (passes_call (takes_of rfl rfl rfl rfl) (fun _ _ _ _ h => h)) (pa_cons (pv 0) (pa_cons (pv 1) (pa_cons pe_int pa_nil)))) pe_int (nomark _)))) pss_nil)
    (pss_cons (ps_setLcV (i := 2) (own := [("at", 3)]) [3] rfl sc_holds.nd rfl rfl (sw_true rfl rfl rfl (by decide +kernel)) (pi_seqK K rfl (pe_tup (pa_cons pe_int (pa_cons pe_int pa_nil)))) (blkOk_by (own := [("at", 3)]) (N := ["saying", "place", "both", "at"]) (sc := defScope s_holds) (by decide +kernel)) (fun _ _ _ _ _ => (pg_name (i := 3) sc_holds.nd rfl (by first | exact Or.inl rfl | exact Or.inr rfl))) (fun _ _ _ _ _ => pts_nil) (fun _ _ _ _ _ => (pe_hid (pe_call ih hr rfl T.holds.g T.holds.F.kp T.holds.b .nil passL (pa_cons (pv 0) (pa_cons (pe_op (op_addX K rfl) (pv 1) (pe_tup (pa_cons (pv 3) pa_nil))) pa_nil))))))
    (pss_one (ps_ret (pe_ifExp (pt_cmpR (op_eqX K rfl hr) (pe_ix (ix_QK K rfl) (pe_ix (ix_QK K rfl) (pe_ix (ix_QK K rfl) (pv 0) pe_int (fun _ _ => rfl)) (pe_callB (call_lenQK K rfl) (by rfl) T.z_len (by decide +kernel) (pa_cons (pv 1) pa_nil)) (fun _ _ => rfl)) pe_int (fun _ _ => rfl)) pe_str (nomark _)) (pe_callB (cr_allK K rfl rfl) (by rfl) T.z_all (by decide +kernel) (pa_cons (pv 2) pa_nil)) (pe_callB (cr_anyK K rfl rfl) (by rfl) T.z_any (by decide +kernel) (pa_cons (pv 2) pa_nil))))))), ?_⟩
    refine fnV rfl h (fun ds Q0 E0 hl hm => ?_)
    obtain ⟨s, pl, rfl, hs, hl1, hl2, hx, q⟩ := hm
    show vSeq _ _ ⟨_, _, _, _, _⟩ [.fz (sayD s), .fz (.tup (dI pl)), .no, .no]
    have hfl := hs.len
    by_cases he : pl.length = s.front.length
    · have he' : ((pl.length : Nat) : Int) = ((s.front.length : Nat) : Int) := by omega
      walk_at "v"
      rw [Say.holds_all he] at q
      exact q
    · have he' : ¬ ((pl.length : Nat) : Int) = ((s.front.length : Nat) : Int) := by omega
      have hi : pl.length < s.front.length := by omega
      have hf : s.front[pl.length]? = some (s.front[pl.length]'hi) := List.getElem?_eq_getElem hi
      generalize s.front[pl.length]'hi = w at hf
      have call : ∀ (a : Int) (Q' : D → Prop) (E' : Er → Prop), (a = 0 ∨ a = 1) → Q' (.bl (s.holds (pl ++ [a]))) → m_holds T n [sayD s, .tup (dI pl ++ [.int a])] Q' E' := fun a Q' E' ha q' => by
        obtain ⟨n, rfl⟩ : ∃ k, n = k + 1 := ⟨n - 1, by omega⟩
        refine ⟨s, pl ++ [a], ?_, hs, ?_, ?_, fun x hx' => ?_, q'⟩
        · show [sayD s, .tup (pl.map D.int ++ [D.int a])] = [sayD s, .tup ((pl ++ [a]).map D.int)]
          rw [List.map_append]; rfl
        · rw [List.length_append]; simp only [List.length_singleton]; omega
        · rw [List.length_append]; simp only [List.length_singleton]; omega
        · rcases List.mem_append.mp hx' with hx' | hx'
          · exact hx x hx'
          · rw [List.mem_singleton.mp hx']; omega
      walk_at "v"
      refine call 0 _ _ (.inl rfl) ?_
      walk_at "v"
      refine call 1 _ _ (.inr rfl) ?_
      have ha : atI (s.front.map frD) ((pl.length : Nat) : Int) = some (frD w) := atI_nat (by rw [List.getElem?_map, hf]; rfl)
      rw [Say.holds_step hf] at q
      walk_at "v"
      refine ⟨_, ha, ?_⟩
      walk_at "v"
      · rename_i hw
        refine ⟨[_, _], rfl, ?_⟩
        rw [if_pos (wordS_iff.mp hw)] at q
        simpa [ret] using q
      · rename_i hw
        refine ⟨[_, _], rfl, ?_⟩
        rw [if_neg fun z => hw (wordS_iff.mpr z)] at q
        simpa [ret] using q
theorem ov_holds (T : Top w K mg) : FnOk P w K mg base (L2.CX P w) (19) T.holds.a T.holds.fd ["saying", "place"] (spV K 0 2 (m_holds T 6)) := ov_holds_n T 6
theorem v_holds {T : Top w K mg} {s : Say} {pl : List Int} {Q : D → Prop} {E : Er → Prop} (hs : SayOk 4 4 s) (h1 : pl.length ≤ s.front.length) (hx : ∀ x ∈ pl, x.natAbs ≤ 1000) (q : Q (.bl (s.holds pl))) : m_holds T 6 [sayD s, .tup (List.map D.int pl)] Q E := ⟨s, pl, rfl, hs, h1, by have := hs.len; show s.front.length ≤ pl.length + 5; omega, hx, q⟩
theorem v_holds0 {T : Top w K mg} {s : Say} {Q : D → Prop} {E : Er → Prop} (hs : SayOk 4 4 s) (q : Q (.bl (s.holds []))) : m_holds T 6 [sayD s, .tup []] Q E := v_holds (pl := []) hs (Nat.zero_le _) (fun _ h => nomatch h) q
local macro_rules | `(tactic| walk_at "vcall") => `(tactic| first | ((with_reducible refine' v_holds0 ?e1 ?_); (case e1 => assumption)) | ((with_reducible refine' v_holds ?e1 ?e2 ?e3 ?_); (case e1 => assumption); (case e2 => walk_at "vside"); (case e3 => assumption)))
/-! ### truth -/
def m_truth (T : Top w K mg) : List D → M := fun ds Q E => ∃ (f : List (Str × Str)) (d : D) (m : Nat), ds = [fbD f d] ∧ f.length ≤ 1000 ∧ (∀ p ∈ f, p.2.length ≤ 1000) ∧ Th m d ∧ ((∃ s : Say, SayOk 4 4 s ∧ fbD f d = sayD s ∧ Q (.bl (s.holds []))) ∨ (¬ IsSay f d ∧ E ⟨T.x_BadSaying.C, [("word", .str "BadSaying")]⟩))
theorem ov_truth (T : Top w K mg) : FnOk P w K mg base (L2.CX P w) 20 T.truth.a T.truth.fd ["saying"] (spV K 0 1 (m_truth T)) := by
  refine T.truth.F.okX sc_truth (spV_len rfl) (fun cdv A outer s H vs Q E hr h => ?_)
  refine ⟨_, (pss_cons (ps_expr (pe_call (ov_look_saying T) (hr.mono (by decide)) rfl T.look_saying.g T.look_saying.F.kp T.look_saying.b .nil (passes_call (takes_of rfl rfl rfl rfl) (fun _ _ _ _ h => h)) (pa_cons (pv 0) pa_nil)))
    (pss_one (ps_ret (pe_call (ov_holds T) (hr.mono (by decide)) rfl T.holds.g T.holds.F.kp T.holds.b .nil (passes_call (takes_of rfl rfl rfl rfl) (fun _ _ _ _ h => h)) (pa_cons (pv 0) (pa_cons (pe_tup pa_nil) pa_nil)))))), ?_⟩
  refine fnV rfl h (fun ds Q0 E0 hl hm => ?_)
  obtain ⟨f, d, m, rfl, hf, hx, hT, q⟩ := hm
  show vSeq _ _ ⟨_, _, _, _, _⟩ [.fz (fbD f d)]
  rcases q with ⟨s, hs, e, q⟩ | ⟨h, q⟩
  · rw [e]
    have hfl := hs.len
    walk_at "v"
    exact q
  · walk_at "v"
    refine ⟨f, d, m, rfl, hf, hx, hT, .inr ⟨h, q⟩⟩

/-! ### look_prime -/
def m_look_prime (T : Top w K mg) : List D → M := fun ds Q E => ∃ p : Int, ds = [.int p] ∧ (p ∈ primesL → Q .non) ∧ (p ∉ primesL → E ⟨T.x_BadPrime.C, [("word", .str "BadPrime")]⟩)
theorem ov_look_prime (T : Top w K mg) : FnOk P w K mg base (L2.CX P w) 4 T.look_prime.a T.look_prime.fd ["prime"] (spV K 0 1 (m_look_prime T)) := by
  refine T.look_prime.F.okX sc_look_prime (spV_len rfl) (fun cdv A outer s H vs Q E hr h => ?_)
  refine ⟨_, (pss_one (ps_if (pt_cmpR (op_notInQK K rfl) (pv 0) (pe_glob (v := .ref T.a_PRIMES) rfl T.c_PRIMES rfl) (by rfl)) (pss_one (ps_raise0 K rfl (takes_of rfl rfl rfl rfl) (pmk_oex0 T.x_BadPrime.oex T.x_BadPrime.iC T.x_BadPrime.tI (ok_BadPrime_init T) (hr.mono (by decide)) T.x_BadPrime.b .nil passL rfl T.x_BadPrime.gC))) pss_nil)), ?_⟩
  refine fnV rfl h (fun ds Q0 E0 hl hm => ?_)
  obtain ⟨p, rfl, q1, q2⟩ := hm
  show vIf _ _ _ ⟨_, _, _, _, _⟩ [.fz (.int p)]
  walk_at "v"
  refine inM_T primesL rfl ?_
  by_cases hp : p ∈ primesL
  · walk_at "v"
    exact q1 hp
  · walk_at "v"
    exact ⟨er_BadPrime T, q2 hp⟩
theorem v_look_prime {T : Top w K mg} {p : Int} {Q : D → Prop} {E : Er → Prop} (h : p ∈ primesL) (q : Q .non) : m_look_prime T [.int p] Q E := ⟨p, rfl, fun _ => q, fun z => absurd h z⟩
theorem v_look_primeN {T : Top w K mg} {p : Int} {Q : D → Prop} {E : Er → Prop} (h : p ∉ primesL) (q : E ⟨T.x_BadPrime.C, [("word", .str "BadPrime")]⟩) : m_look_prime T [.int p] Q E := ⟨p, rfl, fun z => absurd z h, fun _ => q⟩
local macro_rules | `(tactic| walk_at "vcall") => `(tactic| first | ((with_reducible refine' v_look_prime ?e1 ?_); (case e1 => first | assumption | decide)) | ((with_reducible refine' v_look_primeN ?e1 ?_); (case e1 => first | assumption | decide)))
/-! ### are_rests -/
def m_are_rests (T : Top w K mg) : List D → M := fun ds Q _ => ∃ (b : Bool) (ns : List Int) (p : Int), ds = [rowD b ns, .int p] ∧ ns.length ≤ 100000 ∧ ∀ b : Bool, (b = true ↔ Rests p ns) → Q (.bl b)
theorem ov_are_rests (T : Top w K mg) : FnOk P w K mg base (L2.CX P w) 1 T.are_rests.a T.are_rests.fd ["row", "prime"] (spV K 0 2 (m_are_rests T)) := by
  refine T.are_rests.F.okX sc_are_rests (spV_len rfl) (fun cdv A outer s H vs Q E hr h => ?_)
  refine ⟨_, (pss_one (ps_ret (pe_callB (cr_allK K rfl rfl) (by rfl) T.z_all (by decide +kernel) (pa_cons (pe_lcV (own := [("one", 2)]) [2] rfl sc_are_rests.nd (pi_seqK K rfl (pv 0)) (blkOk_by (own := [("one", 2)]) (N := ["row", "prime", "one"]) (sc := defScope s_are_rests) (by decide +kernel)) (fun _ _ _ _ _ => (pg_name (i := 2) sc_are_rests.nd rfl (by first | exact Or.inl rfl | exact Or.inr rfl))) (fun _ _ _ _ _ => pts_nil) (fun _ _ _ _ _ => (pe_hid (pe_chain op_le op_lt pe_int (pv 2) (pv 1))))) pa_nil)))), ?_⟩
  refine fnV rfl h (fun ds Q0 E0 hl hm => ?_)
  obtain ⟨b, ns, p, rfl, hlen, q⟩ := hm
  show vRet _ ⟨_, _, _, _, _⟩ [.fz (rowD b ns), .fz (.int p), .no]
  walk_at "v"
  refine mapV_IB (fun n => decide (0 ≤ n ∧ n < p)) (fun n hn Q' hQ => ?_) ?_
  · by_cases h0 : 0 ≤ n
    · walk_at "v"
      rw [show decide (n < p) = decide (0 ≤ n ∧ n < p) by simp [h0]]
      exact hQ
    · walk_at "v"
      rw [show false = decide (0 ≤ n ∧ n < p) by simp [h0]]
      exact hQ
  · walk_at "v"
    refine q _ ?_
    rw [List.all_map, List.all_eq_true]
    exact ⟨fun h n hn => of_decide_eq_true (h n hn), fun h n hn => decide_eq_true (h n hn)⟩
theorem v_are_rests {T : Top w K mg} {x : D} {b : Bool} {ns : List Int} {p : Int} {Q : D → Prop} {E : Er → Prop} [r : RowC x b ns] (hl : ns.length ≤ 100000) (h : Rests p ns) (q : Q (.bl true)) : m_are_rests T [x, .int p] Q E := ⟨b, ns, p, by rw [r.eq], hl, fun b hb => by rw [hb.mpr h]; exact q⟩
theorem v_are_restsN {T : Top w K mg} {x : D} {b : Bool} {ns : List Int} {p : Int} {Q : D → Prop} {E : Er → Prop} [r : RowC x b ns] (hl : ns.length ≤ 100000) (h : ¬ Rests p ns) (q : Q (.bl false)) : m_are_rests T [x, .int p] Q E := ⟨b, ns, p, by rw [r.eq], hl, fun b hb => by
  cases b with
  | false => exact q
  | true => exact absurd (hb.mp rfl) h⟩
local macro_rules | `(tactic| walk_at "vcall") => `(tactic| first | ((with_reducible refine' v_are_rests ?e1 ?e2 ?_); (case e1 => walk_at "vside"); (case e2 => walk_at "vrests")) | ((with_reducible refine' v_are_restsN ?e1 ?e2 ?_); (case e1 => walk_at "vside"); (case e2 => walk_at "vrestsN")))
/-! ### look_place -/
def PlaceOk (p l : Int) (ns : List Int) : Prop := (ns.length : Int) = l ∧ Rests p ns
def m_look_place (T : Top w K mg) : List D → M := fun ds Q E => ∃ (b : Bool) (ns : List Int) (l p : Int), ds = [rowD b ns, .int l, .int p] ∧ ns.length ≤ 100000 ∧ (PlaceOk p l ns → Q .non) ∧ (¬ PlaceOk p l ns → E ⟨T.x_BadPlace.C, [("word", .str "BadPlace")]⟩)
theorem ov_look_place (T : Top w K mg) : FnOk P w K mg base (L2.CX P w) 4 T.look_place.a T.look_place.fd ["place", "letters", "prime"] (spV K 0 3 (m_look_place T)) := by
  refine T.look_place.F.okX sc_look_place (spV_len rfl) (fun cdv A outer s H vs Q E hr h => ?_)
  refine ⟨_, (pss_one (ps_if (PW.pt (pw_or (pt_cmpR (op_neX K rfl hr) (pe_callB (call_lenQK K rfl) (by rfl) T.z_len (by decide +kernel) (pa_cons (pv 0) pa_nil)) (pv 1) (nomark _)) (pw_or1 (pt_not (pt_val (pe_call (ov_are_rests T) (hr.mono (by decide)) rfl T.are_rests.g T.are_rests.F.kp T.are_rests.b .nil (passes_call (takes_of rfl rfl rfl rfl) (fun _ _ _ _ h => h)) (pa_cons (pv 0) (pa_cons (pv 2) pa_nil)))))))) (pss_one (ps_raise0 K rfl (takes_of rfl rfl rfl rfl) (pmk_oex0 T.x_BadPlace.oex T.x_BadPlace.iC T.x_BadPlace.tI (ok_BadPlace_init T) (hr.mono (by decide)) T.x_BadPlace.b .nil passL rfl T.x_BadPlace.gC))) pss_nil)), ?_⟩
  refine fnV rfl h (fun ds Q0 E0 hl hm => ?_)
  obtain ⟨b, ns, l, p, rfl, hlen, q1, q2⟩ := hm
  show vIf _ _ _ ⟨_, _, _, _, _⟩ [.fz (rowD b ns), .fz (.int l), .fz (.int p)]
  by_cases hk : (ns.length : Int) = l
  · by_cases hR : Rests p ns
    · walk_at "v"
      exact q1 ⟨hk, hR⟩
    · walk_at "v"
      exact ⟨er_BadPlace T, q2 fun z => hR z.2⟩
  · walk_at "v"
    exact ⟨er_BadPlace T, q2 fun z => hk z.1⟩
theorem v_look_place {T : Top w K mg} {x : D} {b : Bool} {ns : List Int} {l p : Int} {Q : D → Prop} {E : Er → Prop} [r : RowC x b ns] (hl : ns.length ≤ 100000) (h : PlaceOk p l ns) (q : Q .non) : m_look_place T [x, .int l, .int p] Q E := ⟨b, ns, l, p, by rw [r.eq], hl, fun _ => q, fun z => absurd h z⟩
theorem v_look_placeN {T : Top w K mg} {x : D} {b : Bool} {ns : List Int} {l p : Int} {Q : D → Prop} {E : Er → Prop} [r : RowC x b ns] (hl : ns.length ≤ 100000) (h : ¬ PlaceOk p l ns) (q : E ⟨T.x_BadPlace.C, [("word", .str "BadPlace")]⟩) : m_look_place T [x, .int l, .int p] Q E := ⟨b, ns, l, p, by rw [r.eq], hl, fun z => absurd z h, fun _ => q⟩
local macro_rules | `(tactic| walk_at "vcall") => `(tactic| first | ((with_reducible refine' v_look_place ?e1 ?e2 ?_); (case e1 => walk_at "vside"); (case e2 => assumption)) | ((with_reducible refine' v_look_placeN ?e1 ?e2 ?_); (case e1 => walk_at "vside"); (case e2 => assumption)))
/-! ### body_worth -/
def m_body_worth (T : Top w K mg) : List D → M := fun ds Q E => ∃ (f : List (Str × Str)) (d : D) (m : Nat) (c : Bool) (ns : List Int) (p : Int), ds = [fbD f d, rowD c ns, .int p] ∧ f.length ≤ 1000 ∧ (∀ p ∈ f, p.2.length ≤ 1000) ∧ Th m d ∧ ns.length ≤ 1000 ∧
  ((p ∉ primesL ∧ E ⟨T.x_BadPrime.C, [("word", .str "BadPrime")]⟩) ∨ (p ∈ primesL ∧ ¬ IsSay f d ∧ E ⟨T.x_BadSaying.C, [("word", .str "BadSaying")]⟩) ∨
    (p ∈ primesL ∧ ∃ s, SayOk 4 4 s ∧ fbD f d = sayD s ∧ ((PlaceOk p (s.front.length : Nat) ns ∧ Q (.int (s.body.worth p (valOf s.nm ns)))) ∨ (¬ PlaceOk p (s.front.length : Nat) ns ∧ E ⟨T.x_BadPlace.C, [("word", .str "BadPlace")]⟩))))
theorem ov_body_worth (T : Top w K mg) : FnOk P w K mg base (L2.CX P w) 16 T.body_worth.a T.body_worth.fd ["saying", "place", "prime"] (spV K 0 3 (m_body_worth T)) := by
  refine T.body_worth.F.okX sc_body_worth (spV_len rfl) (fun cdv A outer s H vs Q E hr h => ?_)
  refine ⟨_, (pss_cons (ps_expr (pe_call (ov_look_prime T) (hr.mono (by decide)) rfl T.look_prime.g T.look_prime.F.kp T.look_prime.b .nil (passes_call (takes_of rfl rfl rfl rfl) (fun _ _ _ _ h => h)) (pa_cons (pv 2) pa_nil)))
    (pss_cons (ps_expr (pe_call (ov_look_saying T) (hr.mono (by decide)) rfl T.look_saying.g T.look_saying.F.kp T.look_saying.b .nil (passes_call (takes_of rfl rfl rfl rfl) (fun _ _ _ _ h => h)) (pa_cons (pv 0) pa_nil)))
    (pss_cons (ps_expr (pe_call (ov_look_place T) (hr.mono (by decide)) rfl T.look_place.g T.look_place.F.kp T.look_place.b .nil (passes_call (takes_of rfl rfl rfl rfl) (fun _ _ _ _ h => h)) (pa_cons (pv 1) (pa_cons (pe_callB (call_lenQK K rfl) (by rfl) T.z_len (by decide +kernel) (pa_cons (pe_ix (ix_QK K rfl) (pv 0) pe_int (fun _ _ => rfl)) pa_nil)) (pa_cons (pv 2) pa_nil)))))
    (pss_one (ps_ret (pe_call (ov_body_at T) (hr.mono (by decide)) rfl T.body_at.g T.body_at.F.kp T.body_at.b .nil (passes_call (takes_of rfl rfl rfl rfl) (fun _ _ _ _ h => h)) (pa_cons (pv 0) (pa_cons (pv 1) (pa_cons (pv 2) pa_nil))))))))), ?_⟩
  refine fnV rfl h (fun ds Q0 E0 hl hm => ?_)
  obtain ⟨f, d, m, c, ns, p, rfl, hf, hx, hT, hn, q⟩ := hm
  show vSeq _ _ ⟨_, _, _, _, _⟩ [.fz (fbD f d), .fz (rowD c ns), .fz (.int p)]
  rcases q with ⟨hp, q⟩ | ⟨hp, h, q⟩ | ⟨hp, s, hs, e, q⟩
  · walk_at "v"
    exact q
  · walk_at "v"
    refine ⟨f, d, m, rfl, hf, hx, hT, .inr ⟨h, ?_⟩⟩
    exact q
  · rw [e]
    have hp2 := primes_bd hp
    rcases q with ⟨h, q⟩ | ⟨h, q⟩
    · have h1 : ns.length = s.front.length := by have := h.1; omega
      have h2 : ∀ x ∈ ns, x.natAbs ≤ 1000 := fun x hx => by have := h.2 x hx; omega
      walk_at "v"
      exact q
    · walk_at "v"
      exact q
theorem v_body_worth {T : Top w K mg} {s : Say} {x : D} {c : Bool} {ns : List Int} {p : Int} {Q : D → Prop} {E : Er → Prop} [r : RowC x c ns] (hs : SayOk 4 4 s) (hn : ns.length ≤ 1000) (hp : p ∈ primesL) (h : PlaceOk p (s.front.length : Nat) ns) (q : Q (.int (s.body.worth p (valOf s.nm ns)))) : m_body_worth T [sayD s, x, .int p] Q E := by
  rw [say_fb, r.eq]
  refine ⟨_, _, _, c, ns, p, rfl, ?_, fun p hp => ?_, th_bD s.body, hn, .inr (.inr ⟨hp, s, hs, (say_fb s).symm, .inl ⟨h, q⟩⟩)⟩
  · rw [List.length_map]
    have := hs.len
    omega
  · obtain ⟨r, hr, rfl⟩ := List.mem_map.mp hp
    have := (hs.nm r hr).2.1
    show r.2.length ≤ 1000
    omega
theorem v_body_worthB {T : Top w K mg} {s : Say} {x : D} {c : Bool} {ns : List Int} {p : Int} {Q : D → Prop} {E : Er → Prop} [r : RowC x c ns] (hs : SayOk 4 4 s) (hn : ns.length ≤ 1000) (hp : p ∈ primesL) (h : ¬ PlaceOk p (s.front.length : Nat) ns) (q : E ⟨T.x_BadPlace.C, [("word", .str "BadPlace")]⟩) : m_body_worth T [sayD s, x, .int p] Q E := by
  rw [say_fb, r.eq]
  refine ⟨_, _, _, c, ns, p, rfl, ?_, fun p hp => ?_, th_bD s.body, hn, .inr (.inr ⟨hp, s, hs, (say_fb s).symm, .inr ⟨h, q⟩⟩)⟩
  · rw [List.length_map]
    have := hs.len
    omega
  · obtain ⟨r, hr, rfl⟩ := List.mem_map.mp hp
    have := (hs.nm r hr).2.1
    show r.2.length ≤ 1000
    omega
local macro_rules | `(tactic| walk_at "vcall") => `(tactic| first | ((with_reducible refine' v_body_worth ?e1 ?e2 ?e3 ?e4 ?_); (case e1 => assumption); (case e2 => walk_at "vside"); (case e3 => first | assumption | decide); (case e4 => assumption)) | ((with_reducible refine' v_body_worthB ?e1 ?e2 ?e3 ?e4 ?_); (case e1 => assumption); (case e2 => walk_at "vside"); (case e3 => first | assumption | decide); (case e4 => assumption)))
/-! ### degrees_in -/
def m_degrees_in (T : Top w K mg) : List D → M := fun ds Q _ => ∃ s : Say, ds = [sayD s] ∧ SayOk 4 4 s ∧ Q (.tup (List.map D.int s.degs))
theorem ov_degrees_in (T : Top w K mg) : FnOk P w K mg base (L2.CX P w) 13 T.degrees_in.a T.degrees_in.fd ["saying"] (spV K 0 1 (m_degrees_in T)) := by
  refine T.degrees_in.F.okX sc_degrees_in (spV_len rfl) (fun cdv A outer s H vs Q E hr h => ?_)
  refine ⟨_, (pss_one (ps_ret (pe_callTy (call_tupQK K rfl) (by rfl) T.z_tuple (by decide +kernel) (pa_cons (pe_lcV (own := [("name", 1)]) [1] rfl sc_degrees_in.nd (pi_seqK K rfl (pe_call (ov_names_in T) (hr.mono (by decide)) rfl T.names_in.g T.names_in.F.kp T.names_in.b .nil (passes_call (takes_of rfl rfl rfl rfl) (fun _ _ _ _ h => h)) (pa_cons (pv 0) pa_nil))) (blkOk_by (own := [("name", 1)]) (N := ["saying", "name"]) (sc := defScope s_degrees_in) (by decide +kernel)) (fun _ _ _ _ _ => (pg_name (i := 1) sc_degrees_in.nd rfl (by first | exact Or.inl rfl | exact Or.inr rfl))) (fun _ _ _ _ _ => pts_nil) (fun _ _ _ _ _ => (pe_hid (pe_call (ov_often T) (hr.mono (by decide)) rfl T.often.g T.often.F.kp T.often.b .nil passL (pa_cons (pv 1) (pa_cons (pe_ix (ix_QK K rfl) (pv 0) pe_int (fun _ _ => rfl)) pa_nil)))))) pa_nil)))), ?_⟩
  refine fnV rfl h (fun ds Q0 E0 hl hm => ?_)
  obtain ⟨s, rfl, hs, q⟩ := hm
  have hfl := hs.len
  have hnl : s.nm.length = s.front.length := by simp [Say.nm]
  have hb := hs.okN
  have hd : s.body.deep ≤ 7 := by have := hs.deep; omega
  show vRet _ ⟨_, _, _, _, _⟩ [.fz (sayD s), .no]
  walk_at "v"
  refine mapV_map D.str (fun x => .int ((s.body.often x : Nat) : Int)) (fun x hx Q' hQ => ?_) ?_
  · have hx2 : okStr x := by
      obtain ⟨p, hp, rfl⟩ := List.mem_map.mp hx
      exact (hs.nm p hp).ok
    walk_at "v"
    exact hQ
  · have e : s.nm.map (fun x => D.int ((s.body.often x : Nat) : Int)) = List.map D.int s.degs := by unfold Say.degs; rw [List.map_map]; rfl
    rw [e]
    walk_at "v"
    exact q
theorem v_degrees_in {T : Top w K mg} {s : Say} {Q : D → Prop} {E : Er → Prop} (h : SayOk 4 4 s) (q : Q (.tup (List.map D.int s.degs))) : m_degrees_in T [sayD s] Q E := ⟨s, rfl, h, q⟩
local macro_rules | `(tactic| walk_at "vcall") => `(tactic| ((with_reducible refine' v_degrees_in ?e1 ?_); (case e1 => assumption)))
/-! ### saying_question -/
def m_saying_question (T : Top w K mg) : List D → M := fun ds Q E => ∃ (f : List (Str × Str)) (d : D) (m : Nat) (v p : Int), ds = [fbD f d, .int v, .int p] ∧ f.length ≤ 1000 ∧ (∀ p ∈ f, p.2.length ≤ 1000) ∧ Th m d ∧
  ((p ∉ primesL ∧ E ⟨T.x_BadPrime.C, [("word", .str "BadPrime")]⟩) ∨ (p ∈ primesL ∧ ¬ IsSay f d ∧ E ⟨T.x_BadSaying.C, [("word", .str "BadSaying")]⟩) ∨
    (p ∈ primesL ∧ ∃ s, SayOk 4 4 s ∧ fbD f d = sayD s ∧
      (((∃ x ∈ s.degs, p ≤ x) ∧ E ⟨T.x_BadSaying.C, [("word", .str "BadSaying")]⟩) ∨ ((∀ x ∈ s.degs, x < p) ∧ ¬ (v = 0 ∨ v = 1) ∧ E ⟨T.x_BadQuestion.C, [("word", .str "BadQuestion")]⟩) ∨ ((∀ x ∈ s.degs, x < p) ∧ (v = 0 ∨ v = 1) ∧ Q (.tup [.str "saying", .int p, sayD s, .int v])))))
theorem ov_saying_question (T : Top w K mg) : FnOk P w K mg base (L2.CX P w) 16 T.saying_question.a T.saying_question.fd ["saying", "claim", "prime"] (spV K 0 3 (m_saying_question T)) := by
  refine T.saying_question.F.okX sc_saying_question (spV_len rfl) (fun cdv A outer s H vs Q E hr h => ?_)
  refine ⟨_, (pss_cons (ps_expr (pe_call (ov_look_prime T) (hr.mono (by decide)) rfl T.look_prime.g T.look_prime.F.kp T.look_prime.b .nil (passes_call (takes_of rfl rfl rfl rfl) (fun _ _ _ _ h => h)) (pa_cons (pv 2) pa_nil)))
    (pss_cons (ps_expr (pe_call (ov_look_saying T) (hr.mono (by decide)) rfl T.look_saying.g T.look_saying.F.kp T.look_saying.b .nil (passes_call (takes_of rfl rfl rfl rfl) (fun _ _ _ _ h => h)) (pa_cons (pv 0) pa_nil)))
    (pss_cons (ps_if (pt_cmpR op_ge (pe_callB (cr_maxX K rfl rfl hr) (by rfl) T.z_max (by decide +kernel) (pa_cons (pe_call (ov_degrees_in T) (hr.mono (by decide)) rfl T.degrees_in.g T.degrees_in.F.kp T.degrees_in.b .nil (passes_call (takes_of rfl rfl rfl rfl) (fun _ _ _ _ h => h)) (pa_cons (pv 0) pa_nil)) pa_nil)) (pv 2) (nomark _)) (pss_one (ps_raise0 K rfl (takes_of rfl rfl rfl rfl) (pmk_oex0 T.x_BadSaying.oex T.x_BadSaying.iC T.x_BadSaying.tI (ok_BadSaying_init T) (hr.mono (by decide)) T.x_BadSaying.b .nil passL rfl T.x_BadSaying.gC))) pss_nil)
    (pss_cons (ps_if (pt_cmpR (op_notInQK K rfl) (pv 1) (pe_tup (pa_cons pe_int (pa_cons pe_int pa_nil))) (by rfl)) (pss_one (ps_raise0 K rfl (takes_of rfl rfl rfl rfl) (pmk_oex0 T.x_BadQuestion.oex T.x_BadQuestion.iC T.x_BadQuestion.tI (ok_BadQuestion_init T) (hr.mono (by decide)) T.x_BadQuestion.b .nil passL rfl T.x_BadQuestion.gC))) pss_nil)
    (pss_one (ps_ret (pe_tup (pa_cons pe_str (pa_cons (pv 2) (pa_cons (pv 0) (pa_cons (pv 1) pa_nil))))))))))), ?_⟩
  refine fnV rfl h (fun ds Q0 E0 hl hm => ?_)
  obtain ⟨f, d, m, v, p, rfl, hf, hx, hT, q⟩ := hm
  show vSeq _ _ ⟨_, _, _, _, _⟩ [.fz (fbD f d), .fz (.int v), .fz (.int p)]
  rcases q with ⟨hp, q⟩ | ⟨hp, h, q⟩ | ⟨hp, s, hs, e, q⟩
  · walk_at "v"
    exact q
  · walk_at "v"
    refine ⟨f, d, m, rfl, hf, hx, hT, .inr ⟨h, ?_⟩⟩
    exact q
  · rw [e]
    have hfl := hs.len
    have hdl : s.degs.length = s.front.length := by unfold Say.degs Say.nm; rw [List.length_map, List.length_map]
    walk_at "v"
    intro m hm1 hm2
    walk_at "v"
    · rename_i hpm
      refine ⟨er_BadSaying T, q.elim (fun z => z.2) fun z => ?_⟩
      exact absurd (z.elim (fun z => z.1) fun z => z.1) fun h => by have := h m hm1; omega
    · rename_i hpm
      have hno : ¬ ∃ x ∈ s.degs, p ≤ x := fun ⟨x, hx1, hx2⟩ => by have := hm2 x hx1; omega
      replace q := q.elim (fun z => absurd z.1 hno) fun z => z
      refine inM_T [0, 1] rfl ?_
      by_cases hv : v = 0 ∨ v = 1
      · rw [show (true != decide (v ∈ [(0 : Int), 1])) = false from by rcases hv with rfl | rfl <;> rfl]
        walk_at "v"
        exact q.elim (fun z => absurd hv z.2.1) fun z => z.2.2
      · rw [show (true != decide (v ∈ [(0 : Int), 1])) = true from by
          rw [decide_eq_false]
          · rfl
          · intro z
            simp at z
            exact hv z]
        walk_at "v"
        refine ⟨er_BadQuestion T, q.elim (fun z => z.2.2) fun z => absurd z.2.1 hv⟩
theorem v_saying_question {T : Top w K mg} {s : Say} {v p : Int} {Q : D → Prop} {E : Er → Prop} (h : SayOk 4 4 s) (hp : p ∈ primesL) (h1 : (∃ x ∈ s.degs, p ≤ x) → E ⟨T.x_BadSaying.C, [("word", .str "BadSaying")]⟩) (h2 : (∀ x ∈ s.degs, x < p) → ¬ (v = 0 ∨ v = 1) → E ⟨T.x_BadQuestion.C, [("word", .str "BadQuestion")]⟩) (h3 : (∀ x ∈ s.degs, x < p) → (v = 0 ∨ v = 1) → Q (.tup [.str "saying", .int p, sayD s, .int v])) : m_saying_question T [sayD s, .int v, .int p] Q E := by
  refine ⟨s.front.map fun p => (wordS p.1, p.2), bD s.body, s.body.deep, v, p, by rw [say_fb], ?_, fun p hp => ?_, th_bD s.body, .inr (.inr ⟨hp, s, h, (say_fb s).symm, ?_⟩)⟩
  · rw [List.length_map]
    have := h.len
    omega
  · obtain ⟨r, hr, rfl⟩ := List.mem_map.mp hp
    have := (h.nm r hr).2.1
    show r.2.length ≤ 1000
    omega
  · by_cases z : ∃ x ∈ s.degs, p ≤ x
    · exact .inl ⟨z, h1 z⟩
    · have z2 : ∀ x ∈ s.degs, x < p := fun x hx => Int.not_le.mp fun hh => z ⟨x, hx, hh⟩
      by_cases z3 : v = 0 ∨ v = 1
      · exact .inr (.inr ⟨z2, z3, h3 z2 z3⟩)
      · exact .inr (.inl ⟨z2, z3, h2 z2 z3⟩)
theorem v_saying_prime {T : Top w K mg} {f : List (Str × Str)} {d : D} {m : Nat} {v p : Int} {x : D} {Q : D → Prop} {E : Er → Prop} (e : x = fbD f d) (hf : f.length ≤ 1000) (hx : ∀ p ∈ f, p.2.length ≤ 1000) (hT : Th m d) (hp : p ∉ primesL) (q : E ⟨T.x_BadPrime.C, [("word", .str "BadPrime")]⟩) : m_saying_question T [x, .int v, .int p] Q E := ⟨f, d, m, v, p, by rw [e], hf, hx, hT, .inl ⟨hp, q⟩⟩
/-! ### names_of -/
def m_names_of (T : Top w K mg) : List D → M := fun ds Q E => ∃ (f : List (Str × Str)) (d : D) (m : Nat), ds = [fbD f d] ∧ f.length ≤ 1000 ∧ (∀ p ∈ f, p.2.length ≤ 1000) ∧ Th m d ∧ ((∃ s : Say, SayOk 4 4 s ∧ fbD f d = sayD s ∧ Q (.tup (s.nm.map D.str))) ∨ (¬ IsSay f d ∧ E ⟨T.x_BadSaying.C, [("word", .str "BadSaying")]⟩))
theorem ov_names_of (T : Top w K mg) : FnOk P w K mg base (L2.CX P w) 16 T.names_of.a T.names_of.fd ["saying"] (spV K 0 1 (m_names_of T)) := by
  refine T.names_of.F.okX sc_names_of (spV_len rfl) (fun cdv A outer s H vs Q E hr h => ?_)
  refine ⟨_, (pss_cons (ps_expr (pe_call (ov_look_saying T) (hr.mono (by decide)) rfl T.look_saying.g T.look_saying.F.kp T.look_saying.b .nil (passes_call (takes_of rfl rfl rfl rfl) (fun _ _ _ _ h => h)) (pa_cons (pv 0) pa_nil)))
    (pss_one (ps_ret (pe_call (ov_names_in T) (hr.mono (by decide)) rfl T.names_in.g T.names_in.F.kp T.names_in.b .nil (passes_call (takes_of rfl rfl rfl rfl) (fun _ _ _ _ h => h)) (pa_cons (pv 0) pa_nil))))), ?_⟩
  refine fnV rfl h (fun ds Q0 E0 hl hm => ?_)
  obtain ⟨f, d, m, rfl, hf, hx, hT, q⟩ := hm
  show vSeq _ _ ⟨_, _, _, _, _⟩ [.fz (fbD f d)]
  rcases q with ⟨s, hs, e, q⟩ | ⟨h, q⟩
  · rw [e]
    have hfl := hs.len
    walk_at "v"
    exact q
  · walk_at "v"
    refine ⟨f, d, m, rfl, hf, hx, hT, .inr ⟨h, q⟩⟩

/-! ### degrees -/
def m_degrees (T : Top w K mg) : List D → M := fun ds Q E => ∃ (f : List (Str × Str)) (d : D) (m : Nat), ds = [fbD f d] ∧ f.length ≤ 1000 ∧ (∀ p ∈ f, p.2.length ≤ 1000) ∧ Th m d ∧ ((∃ s : Say, SayOk 4 4 s ∧ fbD f d = sayD s ∧ Q (.tup (s.degs.map D.int))) ∨ (¬ IsSay f d ∧ E ⟨T.x_BadSaying.C, [("word", .str "BadSaying")]⟩))
theorem ov_degrees (T : Top w K mg) : FnOk P w K mg base (L2.CX P w) 16 T.degrees.a T.degrees.fd ["saying"] (spV K 0 1 (m_degrees T)) := by
  refine T.degrees.F.okX sc_degrees (spV_len rfl) (fun cdv A outer s H vs Q E hr h => ?_)
  refine ⟨_, (pss_cons (ps_expr (pe_call (ov_look_saying T) (hr.mono (by decide)) rfl T.look_saying.g T.look_saying.F.kp T.look_saying.b .nil (passes_call (takes_of rfl rfl rfl rfl) (fun _ _ _ _ h => h)) (pa_cons (pv 0) pa_nil)))
    (pss_one (ps_ret (pe_call (ov_degrees_in T) (hr.mono (by decide)) rfl T.degrees_in.g T.degrees_in.F.kp T.degrees_in.b .nil (passes_call (takes_of rfl rfl rfl rfl) (fun _ _ _ _ h => h)) (pa_cons (pv 0) pa_nil))))), ?_⟩
  refine fnV rfl h (fun ds Q0 E0 hl hm => ?_)
  obtain ⟨f, d, m, rfl, hf, hx, hT, q⟩ := hm
  show vSeq _ _ ⟨_, _, _, _, _⟩ [.fz (fbD f d)]
  rcases q with ⟨s, hs, e, q⟩ | ⟨h, q⟩
  · rw [e]
    have hfl := hs.len
    walk_at "v"
    exact q
  · walk_at "v"
    refine ⟨f, d, m, rfl, hf, hx, hT, .inr ⟨h, q⟩⟩

/-! ### _law_same -/

def sp_same (K : PySem.W.Frag) (n : Nat) : Sp := fun vs H Q _ => ∃ (u v : V) (d : PyData), vs = [u, v] ∧ Dp K H u d ∧ Dp K H v d ∧ okD n d ∧ ∀ H', L2.Same H H' → Q (.bl true) H'
theorem ok_same_n (T : Top w K mg) : ∀ n : Nat, FnOk P w K mg base (L2.CX P w) (n + 1) T.law_same.a T.law_same.fd ["_law_found", "_law_due"] (sp_same K n)
  | 0 => by
    refine T.law_same.F.okX sc_law_same (fun vs H Q E h => ?_) (fun cdv A outer s H vs Q E hr h => ?_)
    · obtain ⟨u, v, d, rfl, _⟩ := h
      rfl
    · obtain ⟨u, v, d, rfl, _, _, z, _⟩ := h
      exact z.elim
  | n + 1 => by
    have ih := ok_same_n T n
    refine T.law_same.F.okX sc_law_same (fun vs H Q E h => ?_) (fun cdv A outer s H vs Q E hr h => ?_)
    · obtain ⟨u, v, d, rfl, _⟩ := h
      rfl
    · obtain ⟨u, v, d, rfl, hu, hv, hd, q⟩ := h
      refine ⟨_, (pss_cons (ps_if (pt_cmpR op_isN2 (pv 1) pe_non (nomark _)) (pss_one (ps_ret (pe_cmpR op_isN2 (pv 0) pe_non (nomark _)))) pss_nil)
    (pss_cons (ps_if (PW.pt (pw_or (pt_val (pe_callB (call_isiK2 K rfl) (by rfl) T.z_isinstance (by decide +kernel) (pa_cons (pv 1) (pa_cons (pe_bltn (v := .ty "bool") (u := .type "bool") (by rfl) T.z_bool (by decide +kernel) rfl) pa_nil)))) (pw_or1 (pt_val (pe_callB (call_isiK2 K rfl) (by rfl) T.z_isinstance (by decide +kernel) (pa_cons (pv 0) (pa_cons (pe_bltn (v := .ty "bool") (u := .type "bool") (by rfl) T.z_bool (by decide +kernel) rfl) pa_nil))))))) (pss_one (ps_ret (pe_and (pe_callB (call_isiK2 K rfl) (by rfl) T.z_isinstance (by decide +kernel) (pa_cons (pv 1) (pa_cons (pe_bltn (v := .ty "bool") (u := .type "bool") (by rfl) T.z_bool (by decide +kernel) rfl) pa_nil))) (pe_and (pe_callB (call_isiK2 K rfl) (by rfl) T.z_isinstance (by decide +kernel) (pa_cons (pv 0) (pa_cons (pe_bltn (v := .ty "bool") (u := .type "bool") (by rfl) T.z_bool (by decide +kernel) rfl) pa_nil))) (pe_one (pe_cmpR op_eq (pv 0) (pv 1) (nomark _))))))) pss_nil)
    (pss_cons (ps_if (pt_val (pe_callB (call_isiTK K rfl) (by rfl) T.z_isinstance (by decide +kernel) (pa_cons (pv 1) (pa_cons (pe_tup (pa_cons (pe_bltn (v := .ty "int") (u := .type "int") (by rfl) T.z_int (by decide +kernel) rfl) (pa_cons (pe_bltn (v := .ty "str") (u := .type "str") (by rfl) T.z_str (by decide +kernel) rfl) pa_nil))) pa_nil)))) (pss_one (ps_ret (pe_and (pe_cmpR op_eq (pe_callB (call_isiK2 K rfl) (by rfl) T.z_isinstance (by decide +kernel) (pa_cons (pv 0) (pa_cons (pe_bltn (v := .ty "int") (u := .type "int") (by rfl) T.z_int (by decide +kernel) rfl) pa_nil))) (pe_callB (call_isiK2 K rfl) (by rfl) T.z_isinstance (by decide +kernel) (pa_cons (pv 1) (pa_cons (pe_bltn (v := .ty "int") (u := .type "int") (by rfl) T.z_int (by decide +kernel) rfl) pa_nil))) (nomark _)) (pe_and (pe_callB (call_isiTK K rfl) (by rfl) T.z_isinstance (by decide +kernel) (pa_cons (pv 0) (pa_cons (pe_tup (pa_cons (pe_bltn (v := .ty "int") (u := .type "int") (by rfl) T.z_int (by decide +kernel) rfl) (pa_cons (pe_bltn (v := .ty "str") (u := .type "str") (by rfl) T.z_str (by decide +kernel) rfl) pa_nil))) pa_nil))) (pe_one (pe_cmpR op_eq (pv 0) (pv 1) (nomark _))))))) pss_nil)
    (pss_cons (ps_if (PW.pt (pw_or (pt_cmpR op_ne (pe_callB (call_isiK2 K rfl) (by rfl) T.z_isinstance (by decide +kernel) (pa_cons (pv 0) (pa_cons (pe_bltn (v := .ty "list") (u := .type "list") (by rfl) T.z_list (by decide +kernel) rfl) pa_nil))) (pe_callB (call_isiK2 K rfl) (by rfl) T.z_isinstance (by decide +kernel) (pa_cons (pv 1) (pa_cons (pe_bltn (v := .ty "list") (u := .type "list") (by rfl) T.z_list (by decide +kernel) rfl) pa_nil))) (nomark _)) (pw_or1 (pt_cmpR op_ne (pe_callB (call_isiK2 K rfl) (by rfl) T.z_isinstance (by decide +kernel) (pa_cons (pv 0) (pa_cons (pe_bltn (v := .ty "tuple") (u := .type "tuple") (by rfl) T.z_tuple (by decide +kernel) rfl) pa_nil))) (pe_callB (call_isiK2 K rfl) (by rfl) T.z_isinstance (by decide +kernel) (pa_cons (pv 1) (pa_cons (pe_bltn (v := .ty "tuple") (u := .type "tuple") (by rfl) T.z_tuple (by decide +kernel) rfl) pa_nil))) (nomark _))))) (pss_one (ps_ret pe_bl)) pss_nil)
    (pss_one (ps_ret (pe_and (pe_cmpR op_eq (pe_callB (call_lenQK K rfl) (by rfl) T.z_len (by decide +kernel) (pa_cons (pv 0) pa_nil)) (pe_callB (call_lenQK K rfl) (by rfl) T.z_len (by decide +kernel) (pa_cons (pv 1) pa_nil)) (nomark _)) (pe_one (pe_callB (cr_allK K rfl rfl) (by rfl) T.z_all (by decide +kernel) (pa_cons (pe_lc (own := [("_law_k", 2)]) rfl sc_law_same.nd (pi_range1 (by rfl) T.z_range (pa_cons (pe_callB (call_lenQK K rfl) (by rfl) T.z_len (by decide +kernel) (pa_cons (pv 1) pa_nil)) pa_nil)) (blkOk_by (own := [("_law_k", 2)]) (N := ["_law_found", "_law_due", "_law_k"]) (sc := defScope s_law_same) (by decide +kernel)) (fun _ _ _ _ _ => (pg_name (i := 2) sc_law_same.nd rfl (Or.inl rfl))) (fun _ _ _ _ _ => pts_nil) (fun _ _ _ _ _ => (pe_hid (pe_call ih hr rfl T.law_same.g T.law_same.F.kp T.law_same.b .nil passL (pa_cons (pe_ix (ix_QK K rfl) (pv 0) (pv 2) (fun _ _ => rfl)) (pa_cons (pe_ix (ix_QK K rfl) (pv 1) (pv 2) (fun _ _ => rfl)) pa_nil)))))) pa_nil)))))))))), ?_⟩
      refine g_start (σ := [some u, some v, none]) rfl ?_
      cases d with
      | none =>
        cases hu
        cases hv
        walk_at "py"
        exact q H (L2.Same.refl H)
      | bool b =>
        cases hu
        cases hv
        walk_at "py"
        rw [decide_eq_true rfl]
        exact q _ (by walk_at "same")
      | int i =>
        cases hu
        cases hv
        walk_at "py"
        rw [decide_eq_true rfl]
        exact q _ (by walk_at "same")
      | str x =>
        cases hu
        cases hv
        walk_at "py"
        rw [decide_eq_true rfl]
        exact q _ (by walk_at "same")
      | list ds =>
        cases hu with
        | @lst a xs _ hu1 hu2 =>
        cases hv with
        | @lst b ys _ hv1 hv2 =>
        have l1 := DpAll.len hu2
        have l2 := DpAll.len hv2
        obtain ⟨hl, hd⟩ := hd
        walk_at "py"
        refine lc_dpR (K := K) (fun x => [some (.ref a), some (.ref b), some x]) (List.replicate ds.length (.bool true)) (by rw [List.length_replicate]; omega) (by rw [List.length_replicate]; omega) (fun _ => rfl) (fun _ => rfl) (fun i d B _ hi sm q' hq => ?_) (fun p H' n' s' hp => ?_)
        · have hi2 : i < ds.length := by simpa using (List.getElem?_eq_some_iff.mp hi).1
          obtain ⟨x, ex, dx⟩ := DpAll.get2 hu2 (List.getElem?_eq_getElem hi2)
          obtain ⟨y, ey, dy⟩ := DpAll.get2 hv2 (List.getElem?_eq_getElem hi2)
          have ax := atI_of ex (show (0 : Int) + (i : Int) = (i : Int) by omega)
          have ay := atI_of ey (show (0 : Int) + (i : Int) = (i : Int) by omega)
          have hr : (List.replicate ds.length (PyData.bool true))[i]? = some (.bool true) := by simp [hi2]
          have ed : d = .bool true := by
            rw [hi] at hr
            exact Option.some.inj hr
          subst ed
          walk_at "py"
          refine ⟨x, y, _, rfl, by walk_at "dp", by walk_at "dp", hd _ (List.getElem_mem hi2), fun B' sm' => hq _ B' sm' (.bl true)⟩
        · obtain ⟨zs, e, dp⟩ := hp
          rw [dp_bools dp] at e
          walk_at "py"
          refine g_all (SqL.of e) ?_
          rw [all_rep]
          exact q _ (by walk_at "same")
      | tuple ds =>
        cases hu with
        | @tup a xs _ hu1 hu2 =>
        cases hv with
        | @tup b ys _ hv1 hv2 =>
        have l1 := DpAll.len hu2
        have l2 := DpAll.len hv2
        obtain ⟨hl, hd⟩ := hd
        walk_at "py"
        refine lc_dpR (K := K) (fun x => [some (.ref a), some (.ref b), some x]) (List.replicate ds.length (.bool true)) (by rw [List.length_replicate]; omega) (by rw [List.length_replicate]; omega) (fun _ => rfl) (fun _ => rfl) (fun i d B _ hi sm q' hq => ?_) (fun p H' n' s' hp => ?_)
        · have hi2 : i < ds.length := by simpa using (List.getElem?_eq_some_iff.mp hi).1
          obtain ⟨x, ex, dx⟩ := DpAll.get2 hu2 (List.getElem?_eq_getElem hi2)
          obtain ⟨y, ey, dy⟩ := DpAll.get2 hv2 (List.getElem?_eq_getElem hi2)
          have ax := atI_of ex (show (0 : Int) + (i : Int) = (i : Int) by omega)
          have ay := atI_of ey (show (0 : Int) + (i : Int) = (i : Int) by omega)
          have hr : (List.replicate ds.length (PyData.bool true))[i]? = some (.bool true) := by simp [hi2]
          have ed : d = .bool true := by
            rw [hi] at hr
            exact Option.some.inj hr
          subst ed
          walk_at "py"
          refine ⟨x, y, _, rfl, by walk_at "dp", by walk_at "dp", hd _ (List.getElem_mem hi2), fun B' sm' => hq _ B' sm' (.bl true)⟩
        · obtain ⟨zs, e, dp⟩ := hp
          rw [dp_bools dp] at e
          walk_at "py"
          refine g_all (SqL.of e) ?_
          rw [all_rep]
          exact q _ (by walk_at "same")
      | dict ds => exact hd.elim
theorem ok_law_same (T : Top w K mg) : FnOk P w K mg base (L2.CX P w) 9 T.law_same.a T.law_same.fd ["_law_found", "_law_due"] (sp_same K 8) := ok_same_n T 8
theorem g_same {n : Nat} {H : Hp} {Q : VK} {E : XK} {u v : V} {d d' : PyData} (h1 : Dp K H u d) (h2 : Dp K H v d') (e : d = d') (hd : okD n d) (k : ∀ H', L2.Same H H' → Q (.bl true) H') : sp_same K n [u, v] H Q E := ⟨u, v, d, rfl, h1, e ▸ h2, hd, k⟩
local macro_rules | `(tactic| walk_at "okd") => `(tactic| first | exact True.intro | assumption | exact okD_ints (by first | assumption | omega) | exact okD_intsT (by first | assumption | omega) | (refine okD_list (by first | exact Nat.le_of_ble_eq_true rfl | omega) ?_; walk_at "okd") | (refine okD_tuple (by first | exact Nat.le_of_ble_eq_true rfl | omega) ?_; walk_at "okd") | exact okD_nil | (refine okD_cons ?_ ?_ <;> walk_at "okd"))
local macro_rules | `(tactic| walk_at "eqd") => `(tactic| first | rfl | assumption)
local macro_rules | `(tactic| walk_at "call1") => `(tactic| ((with_reducible refine' g_same ?e1 ?e2 ?e3 ?e4 ?_); (case e1 => walk_at "dp"); (case e2 => walk_at "dp"); (case e3 => walk_at "eqd"); (case e4 => walk_at "okd"); intro H' s'))

def okV : Nat → D → Prop
  | 0, _ => False
  | n + 1, .lst ds => ds.length ≤ 100000 ∧ ∀ d ∈ ds, okV n d
  | n + 1, .tup ds => ds.length ≤ 100000 ∧ ∀ d ∈ ds, okV n d
  | _ + 1, .non => True
  | _ + 1, .bl _ => True
  | _ + 1, .int _ => True
  | _ + 1, .str _ => True
  | _ + 1, _ => False
theorem okV_py : ∀ {n : Nat} {d : D}, okV n d → ∃ p, toPy d = some p ∧ okD n p
  | 0, _, h => h.elim
  | n + 1, .non, _ => ⟨_, rfl, True.intro⟩
  | n + 1, .bl _, _ => ⟨_, rfl, True.intro⟩
  | n + 1, .int _, _ => ⟨_, rfl, True.intro⟩
  | n + 1, .str _, _ => ⟨_, rfl, True.intro⟩
  | n + 1, .lst ds, h => by
    have go : ∀ es : List D, (∀ d ∈ es, okV n d) → ∃ ps, toPyA es = some ps ∧ ps.length = es.length ∧ ∀ p ∈ ps, okD n p := by
      intro es
      induction es with
      | nil => exact fun _ => ⟨[], rfl, rfl, fun _ h => nomatch h⟩
      | cons e es ih =>
        intro he
        obtain ⟨p, h1, h2⟩ := okV_py (he e List.mem_cons_self)
        obtain ⟨ps, h3, h4, h5⟩ := ih fun d hd => he d (List.mem_cons_of_mem _ hd)
        refine ⟨p :: ps, by rw [toPyA, h1, h3]; rfl, by simp [h4], fun q hq => ?_⟩
        rcases List.mem_cons.mp hq with rfl | hq
        · exact h2
        · exact h5 q hq
    obtain ⟨ps, h1, h2, h3⟩ := go ds h.2
    exact ⟨.list ps, by rw [toPy, h1]; rfl, by rw [h2]; exact h.1, h3⟩
  | n + 1, .tup ds, h => by
    have go : ∀ es : List D, (∀ d ∈ es, okV n d) → ∃ ps, toPyA es = some ps ∧ ps.length = es.length ∧ ∀ p ∈ ps, okD n p := by
      intro es
      induction es with
      | nil => exact fun _ => ⟨[], rfl, rfl, fun _ h => nomatch h⟩
      | cons e es ih =>
        intro he
        obtain ⟨p, h1, h2⟩ := okV_py (he e List.mem_cons_self)
        obtain ⟨ps, h3, h4, h5⟩ := ih fun d hd => he d (List.mem_cons_of_mem _ hd)
        refine ⟨p :: ps, by rw [toPyA, h1, h3]; rfl, by simp [h4], fun q hq => ?_⟩
        rcases List.mem_cons.mp hq with rfl | hq
        · exact h2
        · exact h5 q hq
    obtain ⟨ps, h1, h2, h3⟩ := go ds h.2
    exact ⟨.tuple ps, by rw [toPy, h1]; rfl, by rw [h2]; exact h.1, h3⟩
  | n + 1, .drw, h => h.elim
  | n + 1, .obj _ _ _, h => h.elim
  | n + 1, .scr, h => h.elim
  | n + 1, .lam _ _ _, h => h.elim
  | n + 1, .dct _ _, h => h.elim
  | n + 1, .adr _, h => h.elim
def m_law_same (T : Top w K mg) : List D → M := fun ds Q _ => ∃ u v : D, ds = [u, v] ∧ u = v ∧ okV 8 u ∧ Q (.bl true)
theorem ov_law_same (T : Top w K mg) : FnOk P w K mg base (L2.CX P w) 9 T.law_same.a T.law_same.fd ["_law_found", "_law_due"] (spV K 0 2 (m_law_same T)) := (ok_law_same T).imp fun vs H Q E ⟨ds, hl, r, Q0, E0, hm, hq, he⟩ => by
  obtain ⟨u, v, rfl, rfl, ho, q⟩ := hm
  obtain ⟨p, h1, h2⟩ := okV_py ho
  cases r with
  | cons h r =>
    cases r with
    | cons h' r =>
      cases r
      exact ⟨_, _, p, rfl, toPy_rp h h1, toPy_rp h' h1, h2, fun H' s => hq (.bl true) _ H' q s (.bl true) True.intro⟩
theorem v_law_same {T : Top w K mg} {u v : D} {Q : D → Prop} {E : Er → Prop} (e : u = v) (h : okV 8 u) (q : Q (.bl true)) : m_law_same T [u, v] Q E := ⟨u, v, rfl, e, h, q⟩
theorem okV_ints {n : Nat} {ns : List Int} (h : ns.length ≤ 100000) : okV (n + 2) (.lst (List.map D.int ns)) := ⟨by rw [List.length_map]; exact h, fun d hd => by
  obtain ⟨i, _, rfl⟩ := List.mem_map.mp hd
  exact True.intro⟩
theorem okV_intsT {n : Nat} {ns : List Int} (h : ns.length ≤ 100000) : okV (n + 2) (.tup (List.map D.int ns)) := ⟨by rw [List.length_map]; exact h, fun d hd => by
  obtain ⟨i, _, rfl⟩ := List.mem_map.mp hd
  exact True.intro⟩
theorem okV_nil {n : Nat} : ∀ d ∈ ([] : List D), okV n d := fun _ h => nomatch h
theorem okV_cons {n : Nat} {x : D} {xs : List D} (h : okV n x) (q : ∀ d ∈ xs, okV n d) : ∀ d ∈ x :: xs, okV n d := fun d hd => by
  rcases List.mem_cons.mp hd with rfl | hd
  · exact h
  · exact q d hd
local macro_rules | `(tactic| walk_at "vok") => `(tactic| first | exact True.intro | assumption | exact okV_ints (by walk_at "vside") | exact okV_intsT (by walk_at "vside") | (refine And.intro (by first | exact Nat.le_of_ble_eq_true rfl | walk_at "vside") ?_; walk_at "vok") | exact okV_nil | (refine okV_cons ?_ ?_ <;> walk_at "vok"))
local macro_rules | `(tactic| walk_at "veq") => `(tactic| first | rfl | assumption)
local macro_rules | `(tactic| walk_at "vcall") => `(tactic| ((with_reducible refine' v_law_same ?e1 ?e2 ?_); (case e1 => walk_at "veq"); (case e2 => walk_at "vok")))
/-! ### law -/
theorem bad20 (n : Nat) : (List.replicate n [D.tup [D.non, D.str (Str.ofString "BadSaying")]]).flatten = List.replicate n (D.tup [D.non, D.str (Str.ofString "BadSaying")]) := by
  induction n with
  | zero => rfl
  | succ n ih => rw [List.replicate_succ, List.replicate_succ, List.flatten_cons, ih]; rfl
def sp_law (K : PySem.W.Frag) (tb : Addr) : Sp := fun vs H Q _ => ∃ (a : Addr) (ns : List Int), vs = [.ref a] ∧ SqL K H a (ns.map V.int) ∧ ns.length ≤ 63 ∧ H tb = some (.tbl #[]) ∧ ∀ H', Q (.bl true) H'
set_option maxHeartbeats 16000000 in
theorem ok_law (T : Top w K mg) (TB : LamX.TabB base mg T.law.c T.law.tb) : FnOk P w K mg base (L2.CX P w) 40 T.law.a T.law.fd ["_law_script"] (sp_law K T.law.tb) := by
  refine T.law.F.okX sc_law (fun vs H Q E h => ?_) (fun A outer s H vs Q E hr h => ?_)
  · obtain ⟨a, ns, rfl, _⟩ := h
    rfl
  · obtain ⟨a, ns, rfl, hS, hl, hT, q⟩ := h
    have T0 : LamX.Tabs [(T.law.tb, lamQ_law)] H := fun p hp => by
      rw [List.mem_singleton.mp hp]
      exact LamX.TabS.nil hT
    refine ⟨_, (pss_cons (ps_hids (ps_set (i := 1) sc_law.nd rfl (Or.inl rfl) (pe_call (ov_law_begin T) (hr.mono (by decide)) rfl T.law_begin.g T.law_begin.F.kp T.law_begin.b .nil (passes_call (takes_of rfl rfl rfl rfl) (fun _ _ _ _ h => h)) (pa_cons (pv 0) pa_nil))))
    (pss_cons (ps_forF [2, 3, 4, 5, 6, 7] (ps_for (passes_of rfl) rfl (pi_range1 (by rfl) T.z_range (pa_cons pe_int pa_nil)) (pg_name (i := 2) sc_law.nd rfl (Or.inl rfl)) (pss_cons (ps_hids (ps_set (i := 3) sc_law.nd rfl (Or.inr rfl) (pe_call (ov_law_saying T) (hr.mono (by decide)) rfl T.law_saying.g T.law_saying.F.kp T.law_saying.b .nil (passes_call (takes_of rfl rfl rfl rfl) (fun _ _ _ _ h => h)) (pa_cons (pv 1) (pa_cons pe_int (pa_cons pe_int pa_nil))))))
    (pss_cons (ps_if (pt_cmpR op_gt (pe_call (ov_law_pick T) (hr.mono (by decide)) rfl T.law_pick.g T.law_pick.F.kp T.law_pick.b .nil (passes_call (takes_of rfl rfl rfl rfl) (fun _ _ _ _ h => h)) (pa_cons (pv 1) (pa_cons pe_int pa_nil))) pe_int (nomark _)) (pss_one (ps_hids (ps_set (i := 3) sc_law.nd rfl (Or.inr rfl) (pe_call (ov_law_bent_saying T) (hr.mono (by decide)) rfl T.law_bent_saying.g T.law_bent_saying.F.kp T.law_bent_saying.b .nil (passes_call (takes_of rfl rfl rfl rfl) (fun _ _ _ _ h => h)) (pa_cons (pv 1) (pa_cons (pv 3) pa_nil)))))) pss_nil)
    (pss_cons (ps_hids (ps_set (i := 4) sc_law.nd rfl (Or.inr rfl) (pe_op op_mulX (pe_lst (pa_cons pe_int pa_nil)) (pe_callB (call_lenQK K rfl) (by rfl) T.z_len (by decide +kernel) (pa_cons (pe_ix (ix_QK K rfl) (pv 3) pe_int (fun _ _ => rfl)) pa_nil)))))
    (pss_cons (ps_own (ps_set (i := 5) sc_law.nd rfl (Or.inl rfl) (pe_lst (pa_cons (pe_lamV (T := [(T.law.tb, lamQ_law)]) (eSub 0 (sVal (sSub 3 (sSub 1 s_law)))) TB rfl (List.mem_singleton.mpr rfl) (fun p hp _ => by rw [List.mem_singleton.mp hp] <;> rfl) (LamX.lamS_by (sc := defScope s_law) (by decide +kernel)) rfl rfl) pa_nil))))
    (pss_cons (ps_expr (pe_bmK K rfl PySem.F.plainAttrs_list PySem.F.slot_list_append PySem.F.type_list_append mt_append (pv 5) (pa_cons (pe_hids (pe_lamV (T := [(T.law.tb, lamQ_law)]) (eSub 0 (sVal (sSub 4 (sSub 1 s_law)))) TB rfl (List.mem_singleton.mpr rfl) (fun p hp _ => by rw [List.mem_singleton.mp hp] <;> rfl) (LamX.lamS_by (sc := defScope s_law) (by decide +kernel)) rfl rfl)) pa_nil)))
    (pss_cons (ps_expr (pe_bmK K rfl PySem.F.plainAttrs_list PySem.F.slot_list_append PySem.F.type_list_append mt_append (pv 5) (pa_cons (pe_hids (pe_lamV (T := [(T.law.tb, lamQ_law)]) (eSub 0 (sVal (sSub 5 (sSub 1 s_law)))) TB rfl (List.mem_singleton.mpr rfl) (fun p hp _ => by rw [List.mem_singleton.mp hp] <;> rfl) (LamX.lamS_by (sc := defScope s_law) (by decide +kernel)) rfl rfl)) pa_nil)))
    (pss_cons (ps_expr (pe_bmK K rfl PySem.F.plainAttrs_list PySem.F.slot_list_append PySem.F.type_list_append mt_append (pv 5) (pa_cons (pe_hids (pe_lamV (T := [(T.law.tb, lamQ_law)]) (eSub 0 (sVal (sSub 6 (sSub 1 s_law)))) TB rfl (List.mem_singleton.mpr rfl) (fun p hp _ => by rw [List.mem_singleton.mp hp] <;> rfl) (LamX.lamS_by (sc := defScope s_law) (by decide +kernel)) rfl rfl)) pa_nil)))
    (pss_cons (ps_hids (ps_set (i := 6) sc_law.nd rfl (Or.inl rfl) (pe_lst (pa_cons (pe_lamS (T := [(T.law.tb, lamQ_law)]) (k := 28) rfl T.law_tried.g T.law_tried.F T.law_tried.b sc_law_tried rfl (Or.inl rfl) (fun cdv => tried_gives T rfl rfl cdv) TB rfl (List.mem_singleton.mpr rfl) (fun p hp _ => by rw [List.mem_singleton.mp hp] <;> rfl) (hr.mono (by decide)) (LamX.lamS_by (sc := defScope s_law) (by decide +kernel)) rfl (fun _ _ _ _ _ => rfl) (fun E A outer s H f c' hr2 => (pe_call (ov_names_of T) (hr2.mono (by decide)) rfl T.names_of.g T.names_of.F.kp T.names_of.b .nil (passes_call (takes_of rfl rfl rfl rfl) (fun _ _ _ _ h => h)) (pa_cons (pv 3) pa_nil)))) (pa_cons (pe_lamD (T := [(T.law.tb, lamQ_law)]) (k := 28) (b1 := "_law_a") (d := 0) rfl T.law_tried.g T.law_tried.F T.law_tried.b sc_law_tried rfl (Or.inl rfl) (fun cdv => tried_gives T rfl rfl cdv) TB rfl (List.mem_singleton.mpr rfl) (fun p hp _ => by rw [List.mem_singleton.mp hp] <;> rfl) (hr.mono (by decide)) (lamD_by (N := ["_law_script", "_law_draw", "_law_turn", "_law_saying_here", "_law_place", "_law_acts", "_law_found", "_law_want", "_law_act"]) (sc := defScope s_law) (by decide +kernel)) rfl rfl rfl (fun _ _ _ _ _ _ _ => ⟨_, rfl, fun _ => rfl⟩) (fun E A outer s H f c' hr2 => (pe_call (ov_degrees T) (hr2.mono (by decide)) rfl T.degrees.g T.degrees.F.kp T.degrees.b .nil (passes_call (takes_of rfl rfl rfl rfl) (fun _ _ _ _ h => h)) (pa_cons (pv 3) pa_nil)))) pa_nil)))))
    (pss_one (ps_if (pt_val (pe_call (ov_law_good T) (hr.mono (by decide)) rfl T.law_good.g T.law_good.F.kp T.law_good.b .nil (passes_call (takes_of rfl rfl rfl rfl) (fun _ _ _ _ h => h)) (pa_cons (pv 3) pa_nil))) (pss_cons (ps_hids (ps_set (i := 7) sc_law.nd rfl (Or.inl rfl) (pe_lst (pa_cons (pe_tup (pa_cons (pe_callTy (call_tupQK K rfl) (by rfl) T.z_tuple (by decide +kernel) (pa_cons (pe_call (ov_law_names_in T) (hr.mono (by decide)) rfl T.law_names_in.g T.law_names_in.F.kp T.law_names_in.b .nil (passes_call (takes_of rfl rfl rfl rfl) (fun _ _ _ _ h => h)) (pa_cons (pv 3) pa_nil)) pa_nil)) (pa_cons pe_str pa_nil))) (pa_cons (pe_tup (pa_cons (pe_callTy (call_tupQK K rfl) (by rfl) T.z_tuple (by decide +kernel) (pa_cons (pe_call (ov_law_degrees T) (hr.mono (by decide)) rfl T.law_degrees.g T.law_degrees.F.kp T.law_degrees.b .nil (passes_call (takes_of rfl rfl rfl rfl) (fun _ _ _ _ h => h)) (pa_cons (pv 3) pa_nil)) pa_nil)) (pa_cons pe_str pa_nil))) pa_nil)))))
    (pss_one (ps_if (PW.pt (pw_or (pt_not (pt_val (pe_call (ov_law_same T) (hr.mono (by decide)) rfl T.law_same.g T.law_same.F.kp T.law_same.b .nil (passes_call (takes_of rfl rfl rfl rfl) (fun _ _ _ _ h => h)) (pa_cons (pv 6) (pa_cons (pv 7) pa_nil))))) (pw_or1 (pt_cmpR (op_neX K rfl hr) (pe_lcMV (own := [("_law_act", 8)]) [8] rfl sc_law.nd (pi_seqK K rfl (pv 5)) (blkOk_by (own := [("_law_act", 8)]) (N := ["_law_script", "_law_draw", "_law_turn", "_law_saying_here", "_law_place", "_law_acts", "_law_found", "_law_want", "_law_act"]) (sc := defScope s_law) (by decide +kernel)) (fun _ _ _ _ _ => (pg_name (i := 8) sc_law.nd rfl (by first | exact Or.inl rfl | exact Or.inr rfl))) (fun _ _ _ _ _ => pts_nil) (fun σM _ _ _ _ _ _ IM hfp => (pe_hid (pe_ix (ix_QK K rfl) (pe_tryV (k := 28) IM hfp (LamsK.cons (eSub 0 (sVal (sSub 3 (sSub 1 s_law)))) rfl (LamX.lamS_by (sc := defScope s_law) (by decide +kernel)) (fun _ _ _ _ _ => rfl) (fun E A outer s H f c' hr2 => (pe_call (ov_saying_text T) (hr2.mono (by decide)) rfl T.saying_text.g T.saying_text.F.kp T.saying_text.b .nil (passes_call (takes_of rfl rfl rfl rfl) (fun _ _ _ _ h => h)) (pa_cons (pv 3) pa_nil))) (LamsK.cons (eSub 0 (sVal (sSub 4 (sSub 1 s_law)))) rfl (LamX.lamS_by (sc := defScope s_law) (by decide +kernel)) (fun _ _ _ _ _ => rfl) (fun E A outer s H f c' hr2 => (pe_call (ov_truth T) (hr2.mono (by decide)) rfl T.truth.g T.truth.F.kp T.truth.b .nil (passes_call (takes_of rfl rfl rfl rfl) (fun _ _ _ _ h => h)) (pa_cons (pv 3) pa_nil))) (LamsK.cons (eSub 0 (sVal (sSub 5 (sSub 1 s_law)))) rfl (LamX.lamS_by (sc := defScope s_law) (by decide +kernel)) (fun _ _ _ _ _ => rfl) (fun E A outer s H f c' hr2 => (pe_call (ov_body_worth T) (hr2.mono (by decide)) rfl T.body_worth.g T.body_worth.F.kp T.body_worth.bd T.body_worth.bv (passes_call (takes_of rfl rfl rfl rfl) (fun _ _ _ _ h => h)) (pa_cons (pv 3) (pa_cons (pv 4) pa_nil)))) (LamsK.cons (eSub 0 (sVal (sSub 6 (sSub 1 s_law)))) rfl (LamX.lamS_by (sc := defScope s_law) (by decide +kernel)) (fun _ _ _ _ _ => rfl) (fun E A outer s H f c' hr2 => (pe_call (ov_saying_question T) (hr2.mono (by decide)) rfl T.saying_question.g T.saying_question.F.kp T.saying_question.bd T.saying_question.bv (passes_call (takes_of rfl rfl rfl rfl) (fun _ _ _ _ h => h)) (pa_cons (pv 3) (pa_cons pe_int pa_nil)))) LamsK.nil)))) rfl T.law_tried.g T.law_tried.F T.law_tried.b sc_law_tried rfl (Or.inl rfl) (fun cdv => tried_gives T rfl rfl cdv) (hr.mono (by decide)) (pv 8)) pe_int (fun _ _ => rfl))))) (pe_op op_mulX (pe_lst (pa_cons pe_str pa_nil)) pe_int) (nomark _))))) (pss_one (ps_ret pe_bl)) pss_nil))) (pss_one (ps_if (PW.pt (pw_or (pt_cmpR (op_neX K rfl hr) (pv 6) (pe_op op_mulX (pe_lst (pa_cons (pe_tup (pa_cons pe_non (pa_cons pe_str pa_nil))) pa_nil)) pe_int) (nomark _)) (pw_or1 (pt_cmpR (op_neX K rfl hr) (pe_lcMV (own := [("_law_act", 8)]) [8] rfl sc_law.nd (pi_seqK K rfl (pv 5)) (blkOk_by (own := [("_law_act", 8)]) (N := ["_law_script", "_law_draw", "_law_turn", "_law_saying_here", "_law_place", "_law_acts", "_law_found", "_law_want", "_law_act"]) (sc := defScope s_law) (by decide +kernel)) (fun _ _ _ _ _ => (pg_name (i := 8) sc_law.nd rfl (by first | exact Or.inl rfl | exact Or.inr rfl))) (fun _ _ _ _ _ => pts_nil) (fun σM _ _ _ _ _ _ IM hfp => (pe_hid (pe_tryV (k := 28) IM hfp (LamsK.cons (eSub 0 (sVal (sSub 3 (sSub 1 s_law)))) rfl (LamX.lamS_by (sc := defScope s_law) (by decide +kernel)) (fun _ _ _ _ _ => rfl) (fun E A outer s H f c' hr2 => (pe_call (ov_saying_text T) (hr2.mono (by decide)) rfl T.saying_text.g T.saying_text.F.kp T.saying_text.b .nil (passes_call (takes_of rfl rfl rfl rfl) (fun _ _ _ _ h => h)) (pa_cons (pv 3) pa_nil))) (LamsK.cons (eSub 0 (sVal (sSub 4 (sSub 1 s_law)))) rfl (LamX.lamS_by (sc := defScope s_law) (by decide +kernel)) (fun _ _ _ _ _ => rfl) (fun E A outer s H f c' hr2 => (pe_call (ov_truth T) (hr2.mono (by decide)) rfl T.truth.g T.truth.F.kp T.truth.b .nil (passes_call (takes_of rfl rfl rfl rfl) (fun _ _ _ _ h => h)) (pa_cons (pv 3) pa_nil))) (LamsK.cons (eSub 0 (sVal (sSub 5 (sSub 1 s_law)))) rfl (LamX.lamS_by (sc := defScope s_law) (by decide +kernel)) (fun _ _ _ _ _ => rfl) (fun E A outer s H f c' hr2 => (pe_call (ov_body_worth T) (hr2.mono (by decide)) rfl T.body_worth.g T.body_worth.F.kp T.body_worth.bd T.body_worth.bv (passes_call (takes_of rfl rfl rfl rfl) (fun _ _ _ _ h => h)) (pa_cons (pv 3) (pa_cons (pv 4) pa_nil)))) (LamsK.cons (eSub 0 (sVal (sSub 6 (sSub 1 s_law)))) rfl (LamX.lamS_by (sc := defScope s_law) (by decide +kernel)) (fun _ _ _ _ _ => rfl) (fun E A outer s H f c' hr2 => (pe_call (ov_saying_question T) (hr2.mono (by decide)) rfl T.saying_question.g T.saying_question.F.kp T.saying_question.bd T.saying_question.bv (passes_call (takes_of rfl rfl rfl rfl) (fun _ _ _ _ h => h)) (pa_cons (pv 3) (pa_cons pe_int pa_nil)))) LamsK.nil)))) rfl T.law_tried.g T.law_tried.F T.law_tried.b sc_law_tried rfl (Or.inl rfl) (fun cdv => tried_gives T rfl rfl cdv) (hr.mono (by decide)) (pv 8))))) (pe_op op_mulX (pe_lst (pa_cons (pe_tup (pa_cons pe_non (pa_cons pe_str pa_nil))) pa_nil)) pe_int) (nomark _))))) (pss_one (ps_ret pe_bl)) pss_nil))))))))))))))
    (pss_one (ps_ret pe_bl)))), ?_⟩
    refine lawV (E := E) (L := [(T.law.tb, lamQ_law)]) T0 hS hl q ?_
    clear hS hl q ns T0 hT
    show vSeq _ _ ⟨_, _, _, _, _⟩ [.fz .scr, .no, .no, .no, .no, .no, .no, .no, .no]
    walk_at "v"
    refine forR (fun i => [.fz .scr, .lt .drw, .no, .no, .no, .no, .no, .no, .no]) rfl (fun i N hi hN => ?_) ?_
    · repeat' (walk_at "v1s")
      walk_at "vcut"
      repeat' (walk_at "v1s")
      walk_at "vcut"
      have key : ∀ (f : List (Str × Str)) (d : D), f.length ≤ 4 → (∀ p ∈ f, p.1.length ≤ 8 ∧ p.2.length ≤ 8) → Th 9 d → N' [.fz .scr, .lt .drw, .fz (.int (0 + (i : Int))), .lt (.tup [.tup (f.map prD), d]), .no, .no, .no, .no, .no] := fun f d hf hx hT => by
        have hf2 : f.length ≤ 1000 := by omega
        have hx2 : ∀ p ∈ f, p.2.length ≤ 1000 := fun p hp => by have := (hx p hp).2; omega
        have hp20 : (List.replicate ((((List.map prD f).length : Nat) : Int)).toNat (2 : Int)).length ≤ 1000 := by
          rw [List.length_replicate, List.length_map]
          omega
        by_cases hS : IsSay f d
        · obtain ⟨s, hs, e⟩ := hS
          have hfs : f.length = s.front.length := by
            have := e
            unfold fbD sayD at this
            simp only [D.tup.injEq, List.cons.injEq] at this
            have := congrArg List.length this.1
            rwa [List.length_map, List.length_map] at this
          walk_at "v"
          refine ⟨f, d, 9, rfl, hf2, hx2, hT, .inl ⟨s, hs, e, ?_⟩⟩
          walk_at "v"
          refine ⟨f, d, 9, rfl, hf2, hx2, hT, .inl ⟨s, hs, e, ?_⟩⟩
          walk_at "v"
          refine v_law_good hf hx hT fun r hr => ?_
          rw [show r = true from hr.mpr ⟨s, hs, e⟩]
          have hfl := hs.len
          walk_at "v"
          show m_law_names_in T [fbD f d] _ _
          rw [e]
          refine v_law_names_in (by omega) ?_
          walk_at "v"
          show m_law_degrees T [fbD f d] _ _
          rw [e]
          refine v_law_degrees hs ?_
          have hnl : s.nm.length = s.front.length := List.length_map ..
          have hdl : s.degs.length = s.nm.length := List.length_map ..
          have h1 : okV 6 (.tup (List.map D.str s.nm)) := ⟨by rw [List.length_map]; omega, fun d hd => by
            obtain ⟨x, _, rfl⟩ := List.mem_map.mp hd
            exact True.intro⟩
          have h2 : okV 6 (.tup (List.map D.int s.degs)) := okV_intsT (by omega)
          walk_at "v"
          refine ⟨f, d, 9, rfl, hf2, hx2, hT, .inl ⟨s, hs, e, ?_⟩⟩
          walk_at "v"
          refine ⟨f, d, 9, rfl, hf2, hx2, hT, .inl ⟨s, hs, e, ?_⟩⟩
          walk_at "v"
          refine ⟨f, d, 9, false, _, 31, rfl, hf2, hx2, hT, hp20, .inr (.inr ⟨by decide, s, hs, e, .inl ⟨⟨?_, ?_⟩, ?_⟩⟩)⟩
          · rw [List.length_replicate, List.length_map, hfs]
            omega
          · exact fun x hx => by rw [(List.mem_replicate.mp hx).2]; decide
          walk_at "v"
          refine ⟨f, d, 9, 1, 31, rfl, hf2, hx2, hT, .inr (.inr ⟨by decide, s, hs, e, .inr (.inr ⟨fun x hx => ?_, .inr rfl, ?_⟩)⟩)⟩
          · obtain ⟨y, hy, rfl⟩ := List.mem_map.mp hx
            have := hs.oft y hy
            omega
          walk_at "v"
          rw [show (List.replicate (Int.toNat 4) [D.str (Str.ofString "")]).flatten = [D.str (Str.ofString ""), D.str (Str.ofString ""), D.str (Str.ofString ""), D.str (Str.ofString "")] from rfl]
          walk_at "v"
        · walk_at "v"
          refine ⟨f, d, 9, rfl, hf2, hx2, hT, .inr ⟨hS, ?_⟩⟩
          walk_at "v"
          refine ⟨f, d, 9, rfl, hf2, hx2, hT, .inr ⟨hS, ?_⟩⟩
          walk_at "v"
          refine v_law_good hf hx hT fun r hr => ?_
          rw [show r = false by cases r with | false => rfl | true => exact absurd (hr.mp rfl) hS]
          walk_at "v"
          rw [bad20, show List.replicate (Int.toNat 2) (D.tup [D.non, D.str (Str.ofString "BadSaying")]) = [D.tup [D.non, D.str (Str.ofString "BadSaying")], D.tup [D.non, D.str (Str.ofString "BadSaying")]] from rfl]
          walk_at "v"
          refine ⟨f, d, 9, rfl, hf2, hx2, hT, .inr ⟨hS, ?_⟩⟩
          walk_at "v"
          refine ⟨f, d, 9, rfl, hf2, hx2, hT, .inr ⟨hS, ?_⟩⟩
          walk_at "v"
          refine ⟨f, d, 9, false, _, 31, rfl, hf2, hx2, hT, hp20, .inr (.inl ⟨by decide, hS, ?_⟩)⟩
          walk_at "v"
          refine ⟨f, d, 9, 1, 31, rfl, hf2, hx2, hT, .inr (.inl ⟨by decide, hS, ?_⟩)⟩
          walk_at "v"
          rw [bad20, show List.replicate (Int.toNat 4) (D.tup [D.non, D.str (Str.ofString "BadSaying")]) = [D.tup [D.non, D.str (Str.ofString "BadSaying")], D.tup [D.non, D.str (Str.ofString "BadSaying")], D.tup [D.non, D.str (Str.ofString "BadSaying")], D.tup [D.non, D.str (Str.ofString "BadSaying")]] from rfl]
          walk_at "v"
      walk_at "v"
      · refine v_law_bent_saying ‹_› fun f d hf hx hT => ?_
        unfold fbD
        walk_at "v"
        exact key f d hf hx hT
      · rename_i s hs _ _ _ _
        rw [say_fb]
        unfold fbD
        refine key _ _ (by rw [List.length_map]; exact hs.len.2) (fun p hp => ?_) ((th_bD s.body).up (by have := hs.deep; show s.body.deep ≤ 9; omega))
        obtain ⟨q, hq, rfl⟩ := List.mem_map.mp hp
        have h1 := (hs.nm q hq).2.1
        have h2 : (wordS q.1).length ≤ 8 := by cases q.1 <;> decide
        exact ⟨h2, by show q.2.length ≤ 8; omega⟩
    · walk_at "v"
      rfl
end
theorem all_mk {l : PySem.W.OpenLaw} {w : World} {K : PySem.W.Frag} {h : Heap} {mg : Str → Option Value} {fa : Addr} (X : K.In h) (G : h.Ns mainGlobals mg) (hfa : mg "law" = some (.ref fa))
    {q : Program} (tabs : ∀ (y : Str) (c P : Addr) (dr : DefRec), (recsOf q).find? (fun e => e.name == y) = some dr → PySem.W.tabIn K y = some (c, P) → PySem.W.CodeHd h c P ∧ h.get? P = some { cls := .none, data := .fields #[] })
    {drhrec : DefRec} (hrec : (recsOf q).find? (fun e => e.name == ("law" : Str)) = some drhrec)
    {f0 : Addr} {od0 an0 : Option Addr} {sl0 : Array (Option Value)} {oc0 dc0 pm0 ct0 : Value} {cd0 : Value} {kV0 : Value}
    (a0 : PySem.W.nsIn K mainGlobals "_law_begin" = some (some (.ref f0))) (l0 : K.lookup f0 = some ⟨oc0, od0, .func (PySem.W.fnOf "_law_begin" "_law_begin" (defArgs s_law_begin) (defBody s_law_begin) (defScope s_law_begin) .none kV0 dc0 pm0 an0 cd0 ct0), sl0⟩) (c0 : PySem.W.codeIn K cd0 "_law_begin" = true) (k0 : PySem.W.keepIn K (.ref f0) = true)
    {f1 : Addr} {od1 an1 : Option Addr} {sl1 : Array (Option Value)} {oc1 dc1 pm1 ct1 : Value} {cd1 : Value} {kV1 : Value}
    (a1 : PySem.W.nsIn K mainGlobals "_law_pick" = some (some (.ref f1))) (l1 : K.lookup f1 = some ⟨oc1, od1, .func (PySem.W.fnOf "_law_pick" "_law_pick" (defArgs s_law_pick) (defBody s_law_pick) (defScope s_law_pick) .none kV1 dc1 pm1 an1 cd1 ct1), sl1⟩) (c1 : PySem.W.codeIn K cd1 "_law_pick" = true) (k1 : PySem.W.keepIn K (.ref f1) = true)
    {f2 : Addr} {od2 an2 : Option Addr} {sl2 : Array (Option Value)} {oc2 dc2 pm2 ct2 : Value} {cd2 : Value} {kV2 : Value}
    (a2 : PySem.W.nsIn K mainGlobals "_law_one" = some (some (.ref f2))) (l2 : K.lookup f2 = some ⟨oc2, od2, .func (PySem.W.fnOf "_law_one" "_law_one" (defArgs s_law_one) (defBody s_law_one) (defScope s_law_one) .none kV2 dc2 pm2 an2 cd2 ct2), sl2⟩) (c2 : PySem.W.codeIn K cd2 "_law_one" = true) (k2 : PySem.W.keepIn K (.ref f2) = true)
    {f3 : Addr} {od3 an3 : Option Addr} {sl3 : Array (Option Value)} {oc3 dc3 pm3 ct3 : Value} {cd3 : Value} {kV3 : Value}
    (a3 : PySem.W.nsIn K mainGlobals "_law_body" = some (some (.ref f3))) (l3 : K.lookup f3 = some ⟨oc3, od3, .func (PySem.W.fnOf "_law_body" "_law_body" (defArgs s_law_body) (defBody s_law_body) (defScope s_law_body) .none kV3 dc3 pm3 an3 cd3 ct3), sl3⟩) (c3 : PySem.W.codeIn K cd3 "_law_body" = true) (k3 : PySem.W.keepIn K (.ref f3) = true)
    {f4 : Addr} {od4 an4 : Option Addr} {sl4 : Array (Option Value)} {oc4 dc4 pm4 ct4 : Value} {cd4 : Value} {kV4 : Value}
    (a4 : PySem.W.nsIn K mainGlobals "_law_name_drawn" = some (some (.ref f4))) (l4 : K.lookup f4 = some ⟨oc4, od4, .func (PySem.W.fnOf "_law_name_drawn" "_law_name_drawn" (defArgs s_law_name_drawn) (defBody s_law_name_drawn) (defScope s_law_name_drawn) .none kV4 dc4 pm4 an4 cd4 ct4), sl4⟩) (c4 : PySem.W.codeIn K cd4 "_law_name_drawn" = true) (k4 : PySem.W.keepIn K (.ref f4) = true)
    {f5 : Addr} {od5 an5 : Option Addr} {sl5 : Array (Option Value)} {oc5 dc5 pm5 ct5 : Value} {cd5 : Value} {kV5 : Value}
    (a5 : PySem.W.nsIn K mainGlobals "_law_saying" = some (some (.ref f5))) (l5 : K.lookup f5 = some ⟨oc5, od5, .func (PySem.W.fnOf "_law_saying" "_law_saying" (defArgs s_law_saying) (defBody s_law_saying) (defScope s_law_saying) .none kV5 dc5 pm5 an5 cd5 ct5), sl5⟩) (c5 : PySem.W.codeIn K cd5 "_law_saying" = true) (k5 : PySem.W.keepIn K (.ref f5) = true)
    {f6 : Addr} {od6 an6 : Option Addr} {sl6 : Array (Option Value)} {oc6 dc6 pm6 ct6 : Value} {cd6 : Value} {kV6 : Value}
    (a6 : PySem.W.nsIn K mainGlobals "_law_names_in" = some (some (.ref f6))) (l6 : K.lookup f6 = some ⟨oc6, od6, .func (PySem.W.fnOf "_law_names_in" "_law_names_in" (defArgs s_law_names_in) (defBody s_law_names_in) (defScope s_law_names_in) .none kV6 dc6 pm6 an6 cd6 ct6), sl6⟩) (c6 : PySem.W.codeIn K cd6 "_law_names_in" = true) (k6 : PySem.W.keepIn K (.ref f6) = true)
    {f7 : Addr} {od7 an7 : Option Addr} {sl7 : Array (Option Value)} {oc7 dc7 pm7 ct7 : Value} {cd7 : Value} {kV7 : Value}
    (a7 : PySem.W.nsIn K mainGlobals "_law_good_body" = some (some (.ref f7))) (l7 : K.lookup f7 = some ⟨oc7, od7, .func (PySem.W.fnOf "_law_good_body" "_law_good_body" (defArgs s_law_good_body) (defBody s_law_good_body) (defScope s_law_good_body) .none kV7 dc7 pm7 an7 cd7 ct7), sl7⟩) (c7 : PySem.W.codeIn K cd7 "_law_good_body" = true) (k7 : PySem.W.keepIn K (.ref f7) = true)
    {f8 : Addr} {od8 an8 : Option Addr} {sl8 : Array (Option Value)} {oc8 dc8 pm8 ct8 : Value} {cd8 : Value} {kV8 : Value}
    (a8 : PySem.W.nsIn K mainGlobals "_law_bodies" = some (some (.ref f8))) (l8 : K.lookup f8 = some ⟨oc8, od8, .func (PySem.W.fnOf "_law_bodies" "_law_bodies" (defArgs s_law_bodies) (defBody s_law_bodies) (defScope s_law_bodies) .none kV8 dc8 pm8 an8 cd8 ct8), sl8⟩) (c8 : PySem.W.codeIn K cd8 "_law_bodies" = true) (k8 : PySem.W.keepIn K (.ref f8) = true)
    {f9 : Addr} {od9 an9 : Option Addr} {sl9 : Array (Option Value)} {oc9 dc9 pm9 ct9 : Value} {cd9 : Value} {kV9 : Value}
    (a9 : PySem.W.nsIn K mainGlobals "_law_degrees" = some (some (.ref f9))) (l9 : K.lookup f9 = some ⟨oc9, od9, .func (PySem.W.fnOf "_law_degrees" "_law_degrees" (defArgs s_law_degrees) (defBody s_law_degrees) (defScope s_law_degrees) .none kV9 dc9 pm9 an9 cd9 ct9), sl9⟩) (c9 : PySem.W.codeIn K cd9 "_law_degrees" = true) (k9 : PySem.W.keepIn K (.ref f9) = true)
    {f10 : Addr} {od10 an10 : Option Addr} {sl10 : Array (Option Value)} {oc10 dc10 pm10 ct10 : Value} {cd10 : Value} {kV10 : Value}
    (a10 : PySem.W.nsIn K mainGlobals "_law_good" = some (some (.ref f10))) (l10 : K.lookup f10 = some ⟨oc10, od10, .func (PySem.W.fnOf "_law_good" "_law_good" (defArgs s_law_good) (defBody s_law_good) (defScope s_law_good) .none kV10 dc10 pm10 an10 cd10 ct10), sl10⟩) (c10 : PySem.W.codeIn K cd10 "_law_good" = true) (k10 : PySem.W.keepIn K (.ref f10) = true)
    {f11 : Addr} {od11 an11 : Option Addr} {sl11 : Array (Option Value)} {oc11 dc11 pm11 ct11 : Value} {cd11 : Value} {kV11 : Value}
    (a11 : PySem.W.nsIn K mainGlobals "_law_bent_inner" = some (some (.ref f11))) (l11 : K.lookup f11 = some ⟨oc11, od11, .func (PySem.W.fnOf "_law_bent_inner" "_law_bent_inner" (defArgs s_law_bent_inner) (defBody s_law_bent_inner) (defScope s_law_bent_inner) .none kV11 dc11 pm11 an11 cd11 ct11), sl11⟩) (c11 : PySem.W.codeIn K cd11 "_law_bent_inner" = true) (k11 : PySem.W.keepIn K (.ref f11) = true)
    {f12 : Addr} {od12 an12 : Option Addr} {sl12 : Array (Option Value)} {oc12 dc12 pm12 ct12 : Value} {cd12 : Value} {kV12 : Value}
    (a12 : PySem.W.nsIn K mainGlobals "_law_bent_saying" = some (some (.ref f12))) (l12 : K.lookup f12 = some ⟨oc12, od12, .func (PySem.W.fnOf "_law_bent_saying" "_law_bent_saying" (defArgs s_law_bent_saying) (defBody s_law_bent_saying) (defScope s_law_bent_saying) .none kV12 dc12 pm12 an12 cd12 ct12), sl12⟩) (c12 : PySem.W.codeIn K cd12 "_law_bent_saying" = true) (k12 : PySem.W.keepIn K (.ref f12) = true)
    {f13 : Addr} {od13 an13 : Option Addr} {sl13 : Array (Option Value)} {oc13 dc13 pm13 ct13 : Value} {cd13 : Value} {kV13 : Value}
    (a13 : PySem.W.nsIn K mainGlobals "_law_tried" = some (some (.ref f13))) (l13 : K.lookup f13 = some ⟨oc13, od13, .func (PySem.W.fnOf "_law_tried" "_law_tried" (defArgs s_law_tried) (defBody s_law_tried) (defScope s_law_tried) .none kV13 dc13 pm13 an13 cd13 ct13), sl13⟩) (c13 : PySem.W.codeIn K cd13 "_law_tried" = true) (k13 : PySem.W.keepIn K (.ref f13) = true)
    {f14 : Addr} {od14 an14 : Option Addr} {sl14 : Array (Option Value)} {oc14 dc14 pm14 ct14 : Value} {cd14 : Value} {kV14 : Value}
    (a14 : PySem.W.nsIn K mainGlobals "is_body" = some (some (.ref f14))) (l14 : K.lookup f14 = some ⟨oc14, od14, .func (PySem.W.fnOf "is_body" "is_body" (defArgs s_is_body) (defBody s_is_body) (defScope s_is_body) .none kV14 dc14 pm14 an14 cd14 ct14), sl14⟩) (c14 : PySem.W.codeIn K cd14 "is_body" = true) (k14 : PySem.W.keepIn K (.ref f14) = true)
    {f15 : Addr} {od15 an15 : Option Addr} {sl15 : Array (Option Value)} {oc15 dc15 pm15 ct15 : Value} {cd15 : Value} {kV15 : Value}
    (a15 : PySem.W.nsIn K mainGlobals "inner" = some (some (.ref f15))) (l15 : K.lookup f15 = some ⟨oc15, od15, .func (PySem.W.fnOf "inner" "inner" (defArgs s_inner) (defBody s_inner) (defScope s_inner) .none kV15 dc15 pm15 an15 cd15 ct15), sl15⟩) (c15 : PySem.W.codeIn K cd15 "inner" = true) (k15 : PySem.W.keepIn K (.ref f15) = true)
    {f16 : Addr} {od16 an16 : Option Addr} {sl16 : Array (Option Value)} {oc16 dc16 pm16 ct16 : Value} {cd16 : Value} {kV16 : Value}
    (a16 : PySem.W.nsIn K mainGlobals "parts_of" = some (some (.ref f16))) (l16 : K.lookup f16 = some ⟨oc16, od16, .func (PySem.W.fnOf "parts_of" "parts_of" (defArgs s_parts_of) (defBody s_parts_of) (defScope s_parts_of) .none kV16 dc16 pm16 an16 cd16 ct16), sl16⟩) (c16 : PySem.W.codeIn K cd16 "parts_of" = true) (k16 : PySem.W.keepIn K (.ref f16) = true)
    {f17 : Addr} {od17 an17 : Option Addr} {sl17 : Array (Option Value)} {oc17 dc17 pm17 ct17 : Value} {cd17 : Value} {kV17 : Value}
    (a17 : PySem.W.nsIn K mainGlobals "often" = some (some (.ref f17))) (l17 : K.lookup f17 = some ⟨oc17, od17, .func (PySem.W.fnOf "often" "often" (defArgs s_often) (defBody s_often) (defScope s_often) .none kV17 dc17 pm17 an17 cd17 ct17), sl17⟩) (c17 : PySem.W.codeIn K cd17 "often" = true) (k17 : PySem.W.keepIn K (.ref f17) = true)
    {f18 : Addr} {od18 an18 : Option Addr} {sl18 : Array (Option Value)} {oc18 dc18 pm18 ct18 : Value} {cd18 : Value} {kV18 : Value}
    (a18 : PySem.W.nsIn K mainGlobals "is_small" = some (some (.ref f18))) (l18 : K.lookup f18 = some ⟨oc18, od18, .func (PySem.W.fnOf "is_small" "is_small" (defArgs s_is_small) (defBody s_is_small) (defScope s_is_small) .none kV18 dc18 pm18 an18 cd18 ct18), sl18⟩) (c18 : PySem.W.codeIn K cd18 "is_small" = true) (k18 : PySem.W.keepIn K (.ref f18) = true)
    {f19 : Addr} {od19 an19 : Option Addr} {sl19 : Array (Option Value)} {oc19 dc19 pm19 ct19 : Value} {cd19 : Value} {kV19 : Value}
    (a19 : PySem.W.nsIn K mainGlobals "is_name" = some (some (.ref f19))) (l19 : K.lookup f19 = some ⟨oc19, od19, .func (PySem.W.fnOf "is_name" "is_name" (defArgs s_is_name) (defBody s_is_name) (defScope s_is_name) .none kV19 dc19 pm19 an19 cd19 ct19), sl19⟩) (c19 : PySem.W.codeIn K cd19 "is_name" = true) (k19 : PySem.W.keepIn K (.ref f19) = true)
    {f20 : Addr} {od20 an20 : Option Addr} {sl20 : Array (Option Value)} {oc20 dc20 pm20 ct20 : Value} {cd20 : Value} {kV20 : Value}
    (a20 : PySem.W.nsIn K mainGlobals "is_front" = some (some (.ref f20))) (l20 : K.lookup f20 = some ⟨oc20, od20, .func (PySem.W.fnOf "is_front" "is_front" (defArgs s_is_front) (defBody s_is_front) (defScope s_is_front) .none kV20 dc20 pm20 an20 cd20 ct20), sl20⟩) (c20 : PySem.W.codeIn K cd20 "is_front" = true) (k20 : PySem.W.keepIn K (.ref f20) = true)
    {f21 : Addr} {od21 an21 : Option Addr} {sl21 : Array (Option Value)} {oc21 dc21 pm21 ct21 : Value} {cd21 : Value} {kV21 : Value}
    (a21 : PySem.W.nsIn K mainGlobals "is_saying" = some (some (.ref f21))) (l21 : K.lookup f21 = some ⟨oc21, od21, .func (PySem.W.fnOf "is_saying" "is_saying" (defArgs s_is_saying) (defBody s_is_saying) (defScope s_is_saying) .none kV21 dc21 pm21 an21 cd21 ct21), sl21⟩) (c21 : PySem.W.codeIn K cd21 "is_saying" = true) (k21 : PySem.W.keepIn K (.ref f21) = true)
    {f22 : Addr} {od22 an22 : Option Addr} {sl22 : Array (Option Value)} {oc22 dc22 pm22 ct22 : Value} {cd22 : Value} {kV22 : Value}
    (a22 : PySem.W.nsIn K mainGlobals "look_saying" = some (some (.ref f22))) (l22 : K.lookup f22 = some ⟨oc22, od22, .func (PySem.W.fnOf "look_saying" "look_saying" (defArgs s_look_saying) (defBody s_look_saying) (defScope s_look_saying) .none kV22 dc22 pm22 an22 cd22 ct22), sl22⟩) (c22 : PySem.W.codeIn K cd22 "look_saying" = true) (k22 : PySem.W.keepIn K (.ref f22) = true)
    {f23 : Addr} {od23 an23 : Option Addr} {sl23 : Array (Option Value)} {oc23 dc23 pm23 ct23 : Value} {cd23 : Value} {kV23 : Value}
    (a23 : PySem.W.nsIn K mainGlobals "within" = some (some (.ref f23))) (l23 : K.lookup f23 = some ⟨oc23, od23, .func (PySem.W.fnOf "within" "within" (defArgs s_within) (defBody s_within) (defScope s_within) .none kV23 dc23 pm23 an23 cd23 ct23), sl23⟩) (c23 : PySem.W.codeIn K cd23 "within" = true) (k23 : PySem.W.keepIn K (.ref f23) = true)
    {f24 : Addr} {od24 an24 : Option Addr} {sl24 : Array (Option Value)} {oc24 dc24 pm24 ct24 : Value} {cd24 : Value} {kV24 : Value}
    (a24 : PySem.W.nsIn K mainGlobals "body_text" = some (some (.ref f24))) (l24 : K.lookup f24 = some ⟨oc24, od24, .func (PySem.W.fnOf "body_text" "body_text" (defArgs s_body_text) (defBody s_body_text) (defScope s_body_text) .none kV24 dc24 pm24 an24 cd24 ct24), sl24⟩) (c24 : PySem.W.codeIn K cd24 "body_text" = true) (k24 : PySem.W.keepIn K (.ref f24) = true)
    {f25 : Addr} {od25 an25 : Option Addr} {sl25 : Array (Option Value)} {oc25 dc25 pm25 ct25 : Value} {cd25 : Value} {kV25 : Value}
    (a25 : PySem.W.nsIn K mainGlobals "saying_text" = some (some (.ref f25))) (l25 : K.lookup f25 = some ⟨oc25, od25, .func (PySem.W.fnOf "saying_text" "saying_text" (defArgs s_saying_text) (defBody s_saying_text) (defScope s_saying_text) .none kV25 dc25 pm25 an25 cd25 ct25), sl25⟩) (c25 : PySem.W.codeIn K cd25 "saying_text" = true) (k25 : PySem.W.keepIn K (.ref f25) = true)
    {f26 : Addr} {od26 an26 : Option Addr} {sl26 : Array (Option Value)} {oc26 dc26 pm26 ct26 : Value} {cd26 : Value} {kV26 : Value}
    (a26 : PySem.W.nsIn K mainGlobals "worth_in" = some (some (.ref f26))) (l26 : K.lookup f26 = some ⟨oc26, od26, .func (PySem.W.fnOf "worth_in" "worth_in" (defArgs s_worth_in) (defBody s_worth_in) (defScope s_worth_in) .none kV26 dc26 pm26 an26 cd26 ct26), sl26⟩) (c26 : PySem.W.codeIn K cd26 "worth_in" = true) (k26 : PySem.W.keepIn K (.ref f26) = true)
    {f27 : Addr} {od27 an27 : Option Addr} {sl27 : Array (Option Value)} {oc27 dc27 pm27 ct27 : Value} {cd27 : Value} {kV27 : Value}
    (a27 : PySem.W.nsIn K mainGlobals "names_in" = some (some (.ref f27))) (l27 : K.lookup f27 = some ⟨oc27, od27, .func (PySem.W.fnOf "names_in" "names_in" (defArgs s_names_in) (defBody s_names_in) (defScope s_names_in) .none kV27 dc27 pm27 an27 cd27 ct27), sl27⟩) (c27 : PySem.W.codeIn K cd27 "names_in" = true) (k27 : PySem.W.keepIn K (.ref f27) = true)
    {f28 : Addr} {od28 an28 : Option Addr} {sl28 : Array (Option Value)} {oc28 dc28 pm28 ct28 : Value} {cd28 : Value} {kV28 : Value}
    (a28 : PySem.W.nsIn K mainGlobals "body_at" = some (some (.ref f28))) (l28 : K.lookup f28 = some ⟨oc28, od28, .func (PySem.W.fnOf "body_at" "body_at" (defArgs s_body_at) (defBody s_body_at) (defScope s_body_at) .none kV28 dc28 pm28 an28 cd28 ct28), sl28⟩) (c28 : PySem.W.codeIn K cd28 "body_at" = true) (k28 : PySem.W.keepIn K (.ref f28) = true)
    {f29 : Addr} {od29 an29 : Option Addr} {sl29 : Array (Option Value)} {oc29 dc29 pm29 ct29 : Value} {cd29 : Value} {kV29 : Value}
    (a29 : PySem.W.nsIn K mainGlobals "holds" = some (some (.ref f29))) (l29 : K.lookup f29 = some ⟨oc29, od29, .func (PySem.W.fnOf "holds" "holds" (defArgs s_holds) (defBody s_holds) (defScope s_holds) .none kV29 dc29 pm29 an29 cd29 ct29), sl29⟩) (c29 : PySem.W.codeIn K cd29 "holds" = true) (k29 : PySem.W.keepIn K (.ref f29) = true)
    {f30 : Addr} {od30 an30 : Option Addr} {sl30 : Array (Option Value)} {oc30 dc30 pm30 ct30 : Value} {cd30 : Value} {kV30 : Value}
    (a30 : PySem.W.nsIn K mainGlobals "truth" = some (some (.ref f30))) (l30 : K.lookup f30 = some ⟨oc30, od30, .func (PySem.W.fnOf "truth" "truth" (defArgs s_truth) (defBody s_truth) (defScope s_truth) .none kV30 dc30 pm30 an30 cd30 ct30), sl30⟩) (c30 : PySem.W.codeIn K cd30 "truth" = true) (k30 : PySem.W.keepIn K (.ref f30) = true)
    {f31 : Addr} {od31 an31 : Option Addr} {sl31 : Array (Option Value)} {oc31 dc31 pm31 ct31 : Value} {cd31 : Value} {kV31 : Value}
    (a31 : PySem.W.nsIn K mainGlobals "look_prime" = some (some (.ref f31))) (l31 : K.lookup f31 = some ⟨oc31, od31, .func (PySem.W.fnOf "look_prime" "look_prime" (defArgs s_look_prime) (defBody s_look_prime) (defScope s_look_prime) .none kV31 dc31 pm31 an31 cd31 ct31), sl31⟩) (c31 : PySem.W.codeIn K cd31 "look_prime" = true) (k31 : PySem.W.keepIn K (.ref f31) = true)
    {f32 : Addr} {od32 an32 : Option Addr} {sl32 : Array (Option Value)} {oc32 dc32 pm32 ct32 : Value} {cd32 : Value} {kV32 : Value}
    (a32 : PySem.W.nsIn K mainGlobals "are_rests" = some (some (.ref f32))) (l32 : K.lookup f32 = some ⟨oc32, od32, .func (PySem.W.fnOf "are_rests" "are_rests" (defArgs s_are_rests) (defBody s_are_rests) (defScope s_are_rests) .none kV32 dc32 pm32 an32 cd32 ct32), sl32⟩) (c32 : PySem.W.codeIn K cd32 "are_rests" = true) (k32 : PySem.W.keepIn K (.ref f32) = true)
    {f33 : Addr} {od33 an33 : Option Addr} {sl33 : Array (Option Value)} {oc33 dc33 pm33 ct33 : Value} {cd33 : Value} {kV33 : Value}
    (a33 : PySem.W.nsIn K mainGlobals "look_place" = some (some (.ref f33))) (l33 : K.lookup f33 = some ⟨oc33, od33, .func (PySem.W.fnOf "look_place" "look_place" (defArgs s_look_place) (defBody s_look_place) (defScope s_look_place) .none kV33 dc33 pm33 an33 cd33 ct33), sl33⟩) (c33 : PySem.W.codeIn K cd33 "look_place" = true) (k33 : PySem.W.keepIn K (.ref f33) = true)
    {f34 : Addr} {od34 an34 : Option Addr} {sl34 : Array (Option Value)} {oc34 dc34 pm34 ct34 : Value} {cd34 : Value} {D34 : Addr}
    (a34 : PySem.W.nsIn K mainGlobals "body_worth" = some (some (.ref f34))) (l34 : K.lookup f34 = some ⟨oc34, od34, .func (PySem.W.fnOf "body_worth" "body_worth" (defArgs s_body_worth) (defBody s_body_worth) (defScope s_body_worth) .none (.ref D34) dc34 pm34 an34 cd34 ct34), sl34⟩) (c34 : PySem.W.codeIn K cd34 "body_worth" = true) (k34 : PySem.W.keepIn K (.ref f34) = true)
    {kt34_0 : Tok} (kd34_0 : PySem.W.nsIn K D34 "prime" = some (some (.int 31 kt34_0)))
    {f35 : Addr} {od35 an35 : Option Addr} {sl35 : Array (Option Value)} {oc35 dc35 pm35 ct35 : Value} {cd35 : Value} {kV35 : Value}
    (a35 : PySem.W.nsIn K mainGlobals "degrees_in" = some (some (.ref f35))) (l35 : K.lookup f35 = some ⟨oc35, od35, .func (PySem.W.fnOf "degrees_in" "degrees_in" (defArgs s_degrees_in) (defBody s_degrees_in) (defScope s_degrees_in) .none kV35 dc35 pm35 an35 cd35 ct35), sl35⟩) (c35 : PySem.W.codeIn K cd35 "degrees_in" = true) (k35 : PySem.W.keepIn K (.ref f35) = true)
    {f36 : Addr} {od36 an36 : Option Addr} {sl36 : Array (Option Value)} {oc36 dc36 pm36 ct36 : Value} {cd36 : Value} {D36 : Addr}
    (a36 : PySem.W.nsIn K mainGlobals "saying_question" = some (some (.ref f36))) (l36 : K.lookup f36 = some ⟨oc36, od36, .func (PySem.W.fnOf "saying_question" "saying_question" (defArgs s_saying_question) (defBody s_saying_question) (defScope s_saying_question) .none (.ref D36) dc36 pm36 an36 cd36 ct36), sl36⟩) (c36 : PySem.W.codeIn K cd36 "saying_question" = true) (k36 : PySem.W.keepIn K (.ref f36) = true)
    {kt36_0 : Tok} (kd36_0 : PySem.W.nsIn K D36 "prime" = some (some (.int 31 kt36_0)))
    {f37 : Addr} {od37 an37 : Option Addr} {sl37 : Array (Option Value)} {oc37 dc37 pm37 ct37 : Value} {cd37 : Value} {kV37 : Value}
    (a37 : PySem.W.nsIn K mainGlobals "names_of" = some (some (.ref f37))) (l37 : K.lookup f37 = some ⟨oc37, od37, .func (PySem.W.fnOf "names_of" "names_of" (defArgs s_names_of) (defBody s_names_of) (defScope s_names_of) .none kV37 dc37 pm37 an37 cd37 ct37), sl37⟩) (c37 : PySem.W.codeIn K cd37 "names_of" = true) (k37 : PySem.W.keepIn K (.ref f37) = true)
    {f38 : Addr} {od38 an38 : Option Addr} {sl38 : Array (Option Value)} {oc38 dc38 pm38 ct38 : Value} {cd38 : Value} {kV38 : Value}
    (a38 : PySem.W.nsIn K mainGlobals "degrees" = some (some (.ref f38))) (l38 : K.lookup f38 = some ⟨oc38, od38, .func (PySem.W.fnOf "degrees" "degrees" (defArgs s_degrees) (defBody s_degrees) (defScope s_degrees) .none kV38 dc38 pm38 an38 cd38 ct38), sl38⟩) (c38 : PySem.W.codeIn K cd38 "degrees" = true) (k38 : PySem.W.keepIn K (.ref f38) = true)
    {f39 : Addr} {od39 an39 : Option Addr} {sl39 : Array (Option Value)} {oc39 dc39 pm39 ct39 : Value} {cd39 : Value} {kV39 : Value}
    (a39 : PySem.W.nsIn K mainGlobals "_law_same" = some (some (.ref f39))) (l39 : K.lookup f39 = some ⟨oc39, od39, .func (PySem.W.fnOf "_law_same" "_law_same" (defArgs s_law_same) (defBody s_law_same) (defScope s_law_same) .none kV39 dc39 pm39 an39 cd39 ct39), sl39⟩) (c39 : PySem.W.codeIn K cd39 "_law_same" = true) (k39 : PySem.W.keepIn K (.ref f39) = true)
    {f40 : Addr} {od40 an40 : Option Addr} {sl40 : Array (Option Value)} {oc40 dc40 pm40 ct40 : Value} {cc40 P40 : Addr} {kV40 : Value}
    (a40 : PySem.W.nsIn K mainGlobals "law" = some (some (.ref f40))) (l40 : K.lookup f40 = some ⟨oc40, od40, .func (PySem.W.fnOf "law" "law" (defArgs s_law) (defBody s_law) (defScope s_law) .none kV40 dc40 pm40 an40 (.ref cc40) ct40), sl40⟩) (c40 : PySem.W.codeIn K (.ref cc40) "law" = true) (k40 : PySem.W.keepIn K (.ref f40) = true)
    {to40 : Obj} {tv40 : Array Value} (tl40 : K.lookup cc40 = some to40) (tf40 : to40.data = .fields tv40) (tp40 : tv40[11]? = some (.ref P40)) (t40 : PySem.W.tabIn K "law" = some (cc40, P40)) (u40 : K.lookup P40 = none)
    (z0 : PySem.W.nsIn K mainGlobals "all" = some none)
    (z1 : PySem.W.nsIn K mainGlobals "len" = some none)
    (z2 : PySem.W.nsIn K mainGlobals "list" = some none)
    (z3 : PySem.W.nsIn K mainGlobals "isinstance" = some none)
    (z4 : PySem.W.nsIn K mainGlobals "tuple" = some none)
    (z5 : PySem.W.nsIn K mainGlobals "str" = some none)
    (z6 : PySem.W.nsIn K mainGlobals "zip" = some none)
    (z7 : PySem.W.nsIn K mainGlobals "any" = some none)
    (z8 : PySem.W.nsIn K mainGlobals "max" = some none)
    (z9 : PySem.W.nsIn K mainGlobals "range" = some none)
    (z10 : PySem.W.nsIn K mainGlobals "bool" = some none)
    (z11 : PySem.W.nsIn K mainGlobals "int" = some none)
    (z12 : PySem.W.nsIn K mainGlobals "set" = some none)
    {g0 : Addr} {ob0 : Obj} {it0 : Array Value} {nn0 : Nat} (y0 : PySem.W.nsIn K mainGlobals "PRIMES" = some (some (.ref g0))) (yl0 : K.lookup g0 = some ob0) (yc0 : ob0.cls = .type "tuple") (yd0 : ob0.data = .seq it0 nn0) (yv0 : absL it0.toList = some [.int 3, .int 5, .int 7, .int 11, .int 13, .int 17, .int 19, .int 23, .int 29, .int 31, .int 37, .int 41, .int 43, .int 47, .int 53, .int 59, .int 61])
    {tk1 : Tok} (y1 : PySem.W.nsIn K mainGlobals "PRIME" = some (some (.int 31 tk1)))
    {g2 : Addr} {ob2 : Obj} {it2 : Array Value} {nn2 : Nat} (y2 : PySem.W.nsIn K mainGlobals "WORDS" = some (some (.ref g2))) (yl2 : K.lookup g2 = some ob2) (yc2 : ob2.cls = .type "tuple") (yd2 : ob2.data = .seq it2 nn2) (yv2 : absL it2.toList = some [.str "all", .str "some"])
    {tk3 : Tok} (y3 : PySem.W.nsIn K mainGlobals "LETTERS" = some (some (.str "abcdefghijklmnopqrstuvwxyz" tk3)))
    {g4 : Addr} {ob4 : Obj} {es4 : Array DictEntry} {ep4 : Nat} (y4 : PySem.W.nsIn K mainGlobals "BANDS" = some (some (.ref g4))) (yl4 : K.lookup g4 = some ob4) (yx4 : ob4.ExactDict) (yd4 : ob4.data = .dict es4 ep4) (ya4 : absE es4.toList = some [(.inr "or", .int 0), (.inr "and", .int 1), (.inr "not", .int 2), (.inr "name", .int 3)]) (yh4 : es4.toList.map (·.hash) = ([(.inr "or", .int 0), (.inr "and", .int 1), (.inr "not", .int 2), (.inr "name", .int 3)] : List (Key × V)).map fun p => keyH w p.1) (ys4 : (g4 == sysModules) = false)
    {g5 : Addr} {ob5 : Obj} {es5 : Array DictEntry} {ep5 : Nat} (y5 : PySem.W.nsIn K mainGlobals "JOINTS" = some (some (.ref g5))) (yl5 : K.lookup g5 = some ob5) (yx5 : ob5.ExactDict) (yd5 : ob5.data = .dict es5 ep5) (ya5 : absE es5.toList = some [(.inr "or", .str "|"), (.inr "and", .str "&")]) (yh5 : es5.toList.map (·.hash) = ([(.inr "or", .str "|"), (.inr "and", .str "&")] : List (Key × V)).map fun p => keyH w p.1) (ys5 : (g5 == sysModules) = false)
    {tk6 : Tok} (y6 : PySem.W.nsIn K mainGlobals "LONGEST" = some (some (.int 6 tk6)))
    {tk7 : Tok} (y7 : PySem.W.nsIn K mainGlobals "MOST_FRONT" = some (some (.int 4 tk7)))
    {tk8 : Tok} (y8 : PySem.W.nsIn K mainGlobals "MOST_PARTS" = some (some (.int 24 tk8)))
    {tk9 : Tok} (y9 : PySem.W.nsIn K mainGlobals "MOST_DEEP" = some (some (.int 6 tk9)))
    {tk10 : Tok} (y10 : PySem.W.nsIn K mainGlobals "MOST_OFTEN" = some (some (.int 4 tk10)))
    {C0 g_0 : Addr} {xo0 xa0 : Option Addr} {xs0 : Array (Option Value)} {xoc0 xkv0 xdc0 xpm0 xcd0 xct0 : Value}
    (xg0 : PySem.W.nsIn K mainGlobals "LookError" = some (some (.ref C0)))
    (xfc0 : PySem.W.findCls K (.ref C0) (.type "type") "__init__" = some (.val (.ref g_0)))
    {xT0 : Addr} {xob0 : Obj} {xn0 : Nat}
    (xf0 : K.lookup g_0 = some ⟨xoc0, xo0, .func (PySem.W.fnOf "__init__" "LookError.__init__" (defArgs s_LookError_init) (defBody s_LookError_init) (defScope s_LookError_init) (.ref xT0) xkv0 xdc0 xpm0 xa0 xcd0 xct0), xs0⟩)
    (xc0 : PySem.W.codeIn K xcd0 "LookError.__init__" = true) (xk0 : PySem.W.keepIn K (.ref g_0) = true)
    {xv0_0 : Value}
    (xt0 : K.lookup xT0 = some xob0) (xq0 : xob0.data = .seq #[xv0_0] xn0)
    (xrd0 : PySem.W.readsIn K C0 (.type "type") = true) (xga0 : PySem.W.specialIn K (.ref C0) "__getattribute__" = some (some (.builtin "type.__getattribute__")))
    {C1 g_1 : Addr} {xo1 xa1 : Option Addr} {xs1 : Array (Option Value)} {xoc1 xkv1 xdc1 xpm1 xcd1 xct1 : Value}
    (xg1 : PySem.W.nsIn K mainGlobals "HallError" = some (some (.ref C1)))
    (xfc1 : PySem.W.findCls K (.ref C1) (.type "type") "__init__" = some (.val (.ref g_1)))
    {xT1 : Addr} {xob1 : Obj} {xn1 : Nat}
    (xf1 : K.lookup g_1 = some ⟨xoc1, xo1, .func (PySem.W.fnOf "__init__" "HallError.__init__" (defArgs s_HallError_init) (defBody s_HallError_init) (defScope s_HallError_init) (.ref xT1) xkv1 xdc1 xpm1 xa1 xcd1 xct1), xs1⟩)
    (xc1 : PySem.W.codeIn K xcd1 "HallError.__init__" = true) (xk1 : PySem.W.keepIn K (.ref g_1) = true)
    {xv1_0 : Value}
    (xt1 : K.lookup xT1 = some xob1) (xq1 : xob1.data = .seq #[xv1_0] xn1)
    (xrd1 : PySem.W.readsIn K C1 (.type "type") = true) (xga1 : PySem.W.specialIn K (.ref C1) "__getattribute__" = some (some (.builtin "type.__getattribute__")))
    {C2 g_2 : Addr} {xo2 xa2 : Option Addr} {xs2 : Array (Option Value)} {xoc2 xkv2 xdc2 xpm2 xcd2 xct2 : Value}
    (xg2 : PySem.W.nsIn K mainGlobals "BadPrime" = some (some (.ref C2)))
    (xi2 : PySem.W.findIn K (.ref C2) "__init__" = some (some (.ref g_2)))
    (xf2 : K.lookup g_2 = some ⟨xoc2, xo2, .func (PySem.W.fnOf "__init__" "BadPrime.__init__" (defArgs s_BadPrime_init) (defBody s_BadPrime_init) (defScope s_BadPrime_init) .none xkv2 xdc2 xpm2 xa2 xcd2 xct2), xs2⟩)
    (xc2 : PySem.W.codeIn K xcd2 "BadPrime.__init__" = true) (xk2 : PySem.W.keepIn K (.ref g_2) = true)
    {nm2 qq2 : Str} {NN2 : Addr} {bs2 bm2 sub2 : List Value} {sn2 : List Str} {ab2 : Bool} {col2 : Option Bool} {dd2 : Option Addr} {k0_2 k1_2 k2_2 k3_2 k5_2 : Option Value}
    (xl2 : K.lookup C2 = some (excClassObj nm2 qq2 C2 NN2 bs2 bm2 true sn2 sub2 ab2 col2 dd2 k0_2 k1_2 k2_2 k3_2 k5_2 "ValueError.__new__")) (xr2 : PySem.HandSPX.refsVE bm2 = true) (xsa2 : PySem.W.findIn K (.ref C2) "__setattr__" = some (some (.builtin "object.__setattr__"))) (xex2 : PySem.W.subIn K (.ref C2) (.type "BaseException") = some true) (xty2 : PySem.W.typeIn K (.ref C2) = some (.type "type")) (xkc2 : PySem.W.keepIn K (.ref C2) = true) (xti2 : PySem.W.typeIn K (.ref g_2) = some (.type "function")) (xxf2 : xfB K C2 = true) (xno2 : PySem.W.findIn K (.ref C2) "word" = some none) (xup2 : PySem.W.exmOne K (.ref C2) (.ref C0) = some true)
    {C3 g_3 : Addr} {xo3 xa3 : Option Addr} {xs3 : Array (Option Value)} {xoc3 xkv3 xdc3 xpm3 xcd3 xct3 : Value}
    (xg3 : PySem.W.nsIn K mainGlobals "BadPlace" = some (some (.ref C3)))
    (xi3 : PySem.W.findIn K (.ref C3) "__init__" = some (some (.ref g_3)))
    (xf3 : K.lookup g_3 = some ⟨xoc3, xo3, .func (PySem.W.fnOf "__init__" "BadPlace.__init__" (defArgs s_BadPlace_init) (defBody s_BadPlace_init) (defScope s_BadPlace_init) .none xkv3 xdc3 xpm3 xa3 xcd3 xct3), xs3⟩)
    (xc3 : PySem.W.codeIn K xcd3 "BadPlace.__init__" = true) (xk3 : PySem.W.keepIn K (.ref g_3) = true)
    {nm3 qq3 : Str} {NN3 : Addr} {bs3 bm3 sub3 : List Value} {sn3 : List Str} {ab3 : Bool} {col3 : Option Bool} {dd3 : Option Addr} {k0_3 k1_3 k2_3 k3_3 k5_3 : Option Value}
    (xl3 : K.lookup C3 = some (excClassObj nm3 qq3 C3 NN3 bs3 bm3 true sn3 sub3 ab3 col3 dd3 k0_3 k1_3 k2_3 k3_3 k5_3 "ValueError.__new__")) (xr3 : PySem.HandSPX.refsVE bm3 = true) (xsa3 : PySem.W.findIn K (.ref C3) "__setattr__" = some (some (.builtin "object.__setattr__"))) (xex3 : PySem.W.subIn K (.ref C3) (.type "BaseException") = some true) (xty3 : PySem.W.typeIn K (.ref C3) = some (.type "type")) (xkc3 : PySem.W.keepIn K (.ref C3) = true) (xti3 : PySem.W.typeIn K (.ref g_3) = some (.type "function")) (xxf3 : xfB K C3 = true) (xno3 : PySem.W.findIn K (.ref C3) "word" = some none) (xup3 : PySem.W.exmOne K (.ref C3) (.ref C0) = some true)
    {C4 g_4 : Addr} {xo4 xa4 : Option Addr} {xs4 : Array (Option Value)} {xoc4 xkv4 xdc4 xpm4 xcd4 xct4 : Value}
    (xg4 : PySem.W.nsIn K mainGlobals "BadSaying" = some (some (.ref C4)))
    (xi4 : PySem.W.findIn K (.ref C4) "__init__" = some (some (.ref g_4)))
    (xf4 : K.lookup g_4 = some ⟨xoc4, xo4, .func (PySem.W.fnOf "__init__" "BadSaying.__init__" (defArgs s_BadSaying_init) (defBody s_BadSaying_init) (defScope s_BadSaying_init) .none xkv4 xdc4 xpm4 xa4 xcd4 xct4), xs4⟩)
    (xc4 : PySem.W.codeIn K xcd4 "BadSaying.__init__" = true) (xk4 : PySem.W.keepIn K (.ref g_4) = true)
    {nm4 qq4 : Str} {NN4 : Addr} {bs4 bm4 sub4 : List Value} {sn4 : List Str} {ab4 : Bool} {col4 : Option Bool} {dd4 : Option Addr} {k0_4 k1_4 k2_4 k3_4 k5_4 : Option Value}
    (xl4 : K.lookup C4 = some (excClassObj nm4 qq4 C4 NN4 bs4 bm4 true sn4 sub4 ab4 col4 dd4 k0_4 k1_4 k2_4 k3_4 k5_4 "ValueError.__new__")) (xr4 : PySem.HandSPX.refsVE bm4 = true) (xsa4 : PySem.W.findIn K (.ref C4) "__setattr__" = some (some (.builtin "object.__setattr__"))) (xex4 : PySem.W.subIn K (.ref C4) (.type "BaseException") = some true) (xty4 : PySem.W.typeIn K (.ref C4) = some (.type "type")) (xkc4 : PySem.W.keepIn K (.ref C4) = true) (xti4 : PySem.W.typeIn K (.ref g_4) = some (.type "function")) (xxf4 : xfB K C4 = true) (xno4 : PySem.W.findIn K (.ref C4) "word" = some none) (xup4 : PySem.W.exmOne K (.ref C4) (.ref C0) = some true)
    {C5 g_5 : Addr} {xo5 xa5 : Option Addr} {xs5 : Array (Option Value)} {xoc5 xkv5 xdc5 xpm5 xcd5 xct5 : Value}
    (xg5 : PySem.W.nsIn K mainGlobals "BadQuestion" = some (some (.ref C5)))
    (xi5 : PySem.W.findIn K (.ref C5) "__init__" = some (some (.ref g_5)))
    (xf5 : K.lookup g_5 = some ⟨xoc5, xo5, .func (PySem.W.fnOf "__init__" "BadQuestion.__init__" (defArgs s_BadQuestion_init) (defBody s_BadQuestion_init) (defScope s_BadQuestion_init) .none xkv5 xdc5 xpm5 xa5 xcd5 xct5), xs5⟩)
    (xc5 : PySem.W.codeIn K xcd5 "BadQuestion.__init__" = true) (xk5 : PySem.W.keepIn K (.ref g_5) = true)
    {nm5 qq5 : Str} {NN5 : Addr} {bs5 bm5 sub5 : List Value} {sn5 : List Str} {ab5 : Bool} {col5 : Option Bool} {dd5 : Option Addr} {k0_5 k1_5 k2_5 k3_5 k5_5 : Option Value}
    (xl5 : K.lookup C5 = some (excClassObj nm5 qq5 C5 NN5 bs5 bm5 true sn5 sub5 ab5 col5 dd5 k0_5 k1_5 k2_5 k3_5 k5_5 "ValueError.__new__")) (xr5 : PySem.HandSPX.refsVE bm5 = true) (xsa5 : PySem.W.findIn K (.ref C5) "__setattr__" = some (some (.builtin "object.__setattr__"))) (xex5 : PySem.W.subIn K (.ref C5) (.type "BaseException") = some true) (xty5 : PySem.W.typeIn K (.ref C5) = some (.type "type")) (xkc5 : PySem.W.keepIn K (.ref C5) = true) (xti5 : PySem.W.typeIn K (.ref g_5) = some (.type "function")) (xxf5 : xfB K C5 = true) (xno5 : PySem.W.findIn K (.ref C5) "word" = some none) (xup5 : PySem.W.exmOne K (.ref C5) (.ref C0) = some true) : LamX.LawAtS l w K (L2.CX l.prog w) 40 63 "_law_script" mg fa h := by
  have e : fa = f40 := Value.ref.inj (Option.some.inj (hfa.symm.trans (PySem.W.mg_of X G a40)))
  rw [e]
  have FD34 := funD_of (st := s_body_worth) (kws := [("prime", .int 31)]) l34 c34 k34 (fun q hq => by
    obtain rfl := List.mem_singleton.mp hq
    exact ⟨_, kd34_0, ⟨_, rfl⟩⟩)
  obtain ⟨ds34, bv34, bd34⟩ := FD34.binds0 (ps := ["saying", "place", "prime"]) 2 (by simp) rfl (fun D doc pm an cdv ct us ks hu hk => match us, hu, ks, hk with | [_, _], _, [_], _ => ⟨_, _, _, _, _, _, rfl, rfl, rfl⟩)
  have FD36 := funD_of (st := s_saying_question) (kws := [("prime", .int 31)]) l36 c36 k36 (fun q hq => by
    obtain rfl := List.mem_singleton.mp hq
    exact ⟨_, kd36_0, ⟨_, rfl⟩⟩)
  obtain ⟨ds36, bv36, bd36⟩ := FD36.binds0 (ps := ["saying", "claim", "prime"]) 2 (by simp) rfl (fun D doc pm an cdv ct us ks hu hk => match us, hu, ks, hk with | [_, _], _, [_], _ => ⟨_, _, _, _, _, _, rfl, rfl, rfl⟩)
  let T : Top w K mg := {
    law_begin := ⟨f0, _, fun_mk (st := s_law_begin) l0 c0 k0, (fun_mk (st := s_law_begin) l0 c0 k0).binds (ps := ["_law_script"]) (fun _ _ _ _ _ _ us hl => match us, hl with | [_], _ => rfl), PySem.W.mg_of X G a0⟩,
    law_pick := ⟨f1, _, fun_mk (st := s_law_pick) l1 c1 k1, (fun_mk (st := s_law_pick) l1 c1 k1).binds (ps := ["_law_draw", "_law_many"]) (fun _ _ _ _ _ _ us hl => match us, hl with | [_, _], _ => rfl), PySem.W.mg_of X G a1⟩,
    law_one := ⟨f2, _, fun_mk (st := s_law_one) l2 c2 k2, (fun_mk (st := s_law_one) l2 c2 k2).binds (ps := ["_law_draw", "_law_some"]) (fun _ _ _ _ _ _ us hl => match us, hl with | [_, _], _ => rfl), PySem.W.mg_of X G a2⟩,
    law_body := ⟨f3, _, fun_mk (st := s_law_body) l3 c3 k3, (fun_mk (st := s_law_body) l3 c3 k3).binds (ps := ["_law_draw", "_law_names", "_law_kit", "_law_room"]) (fun _ _ _ _ _ _ us hl => match us, hl with | [_, _, _, _], _ => rfl), PySem.W.mg_of X G a3⟩,
    law_name_drawn := ⟨f4, _, fun_mk (st := s_law_name_drawn) l4 c4 k4, (fun_mk (st := s_law_name_drawn) l4 c4 k4).binds (ps := ["_law_draw", "_law_taken"]) (fun _ _ _ _ _ _ us hl => match us, hl with | [_, _], _ => rfl), PySem.W.mg_of X G a4⟩,
    law_saying := ⟨f5, _, fun_mk (st := s_law_saying) l5 c5 k5, (fun_mk (st := s_law_saying) l5 c5 k5).binds (ps := ["_law_draw", "_law_most", "_law_times_of"]) (fun _ _ _ _ _ _ us hl => match us, hl with | [_, _, _], _ => rfl), PySem.W.mg_of X G a5⟩,
    law_names_in := ⟨f6, _, fun_mk (st := s_law_names_in) l6 c6 k6, (fun_mk (st := s_law_names_in) l6 c6 k6).binds (ps := ["_law_saying_here"]) (fun _ _ _ _ _ _ us hl => match us, hl with | [_], _ => rfl), PySem.W.mg_of X G a6⟩,
    law_good_body := ⟨f7, _, fun_mk (st := s_law_good_body) l7 c7 k7, (fun_mk (st := s_law_good_body) l7 c7 k7).binds (ps := ["_law_body_here", "_law_names", "_law_room"]) (fun _ _ _ _ _ _ us hl => match us, hl with | [_, _, _], _ => rfl), PySem.W.mg_of X G a7⟩,
    law_bodies := ⟨f8, _, fun_mk (st := s_law_bodies) l8 c8 k8, (fun_mk (st := s_law_bodies) l8 c8 k8).binds (ps := ["_law_body_here"]) (fun _ _ _ _ _ _ us hl => match us, hl with | [_], _ => rfl), PySem.W.mg_of X G a8⟩,
    law_degrees := ⟨f9, _, fun_mk (st := s_law_degrees) l9 c9 k9, (fun_mk (st := s_law_degrees) l9 c9 k9).binds (ps := ["_law_saying_here"]) (fun _ _ _ _ _ _ us hl => match us, hl with | [_], _ => rfl), PySem.W.mg_of X G a9⟩,
    law_good := ⟨f10, _, fun_mk (st := s_law_good) l10 c10 k10, (fun_mk (st := s_law_good) l10 c10 k10).binds (ps := ["_law_saying_here"]) (fun _ _ _ _ _ _ us hl => match us, hl with | [_], _ => rfl), PySem.W.mg_of X G a10⟩,
    law_bent_inner := ⟨f11, _, fun_mk (st := s_law_bent_inner) l11 c11 k11, (fun_mk (st := s_law_bent_inner) l11 c11 k11).binds (ps := ["_law_draw", "_law_body_here", "_law_names"]) (fun _ _ _ _ _ _ us hl => match us, hl with | [_, _, _], _ => rfl), PySem.W.mg_of X G a11⟩,
    law_bent_saying := ⟨f12, _, fun_mk (st := s_law_bent_saying) l12 c12 k12, (fun_mk (st := s_law_bent_saying) l12 c12 k12).binds (ps := ["_law_draw", "_law_saying_here"]) (fun _ _ _ _ _ _ us hl => match us, hl with | [_, _], _ => rfl), PySem.W.mg_of X G a12⟩,
    law_tried := ⟨f13, _, fun_mk (st := s_law_tried) l13 c13 k13, (fun_mk (st := s_law_tried) l13 c13 k13).binds (ps := ["_law_ask"]) (fun _ _ _ _ _ _ us hl => match us, hl with | [_], _ => rfl), PySem.W.mg_of X G a13⟩,
    is_body := ⟨f14, _, fun_mk (st := s_is_body) l14 c14 k14, (fun_mk (st := s_is_body) l14 c14 k14).binds (ps := ["body", "names", "room"]) (fun _ _ _ _ _ _ us hl => match us, hl with | [_, _, _], _ => rfl), PySem.W.mg_of X G a14⟩,
    inner := ⟨f15, _, fun_mk (st := s_inner) l15 c15 k15, (fun_mk (st := s_inner) l15 c15 k15).binds (ps := ["body"]) (fun _ _ _ _ _ _ us hl => match us, hl with | [_], _ => rfl), PySem.W.mg_of X G a15⟩,
    parts_of := ⟨f16, _, fun_mk (st := s_parts_of) l16 c16 k16, (fun_mk (st := s_parts_of) l16 c16 k16).binds (ps := ["body"]) (fun _ _ _ _ _ _ us hl => match us, hl with | [_], _ => rfl), PySem.W.mg_of X G a16⟩,
    often := ⟨f17, _, fun_mk (st := s_often) l17 c17 k17, (fun_mk (st := s_often) l17 c17 k17).binds (ps := ["name", "body"]) (fun _ _ _ _ _ _ us hl => match us, hl with | [_, _], _ => rfl), PySem.W.mg_of X G a17⟩,
    is_small := ⟨f18, _, fun_mk (st := s_is_small) l18 c18 k18, (fun_mk (st := s_is_small) l18 c18 k18).binds (ps := ["body", "names"]) (fun _ _ _ _ _ _ us hl => match us, hl with | [_, _], _ => rfl), PySem.W.mg_of X G a18⟩,
    is_name := ⟨f19, _, fun_mk (st := s_is_name) l19 c19 k19, (fun_mk (st := s_is_name) l19 c19 k19).binds (ps := ["text"]) (fun _ _ _ _ _ _ us hl => match us, hl with | [_], _ => rfl), PySem.W.mg_of X G a19⟩,
    is_front := ⟨f20, _, fun_mk (st := s_is_front) l20 c20 k20, (fun_mk (st := s_is_front) l20 c20 k20).binds (ps := ["front"]) (fun _ _ _ _ _ _ us hl => match us, hl with | [_], _ => rfl), PySem.W.mg_of X G a20⟩,
    is_saying := ⟨f21, _, fun_mk (st := s_is_saying) l21 c21 k21, (fun_mk (st := s_is_saying) l21 c21 k21).binds (ps := ["thing"]) (fun _ _ _ _ _ _ us hl => match us, hl with | [_], _ => rfl), PySem.W.mg_of X G a21⟩,
    look_saying := ⟨f22, _, fun_mk (st := s_look_saying) l22 c22 k22, (fun_mk (st := s_look_saying) l22 c22 k22).binds (ps := ["saying"]) (fun _ _ _ _ _ _ us hl => match us, hl with | [_], _ => rfl), PySem.W.mg_of X G a22⟩,
    within := ⟨f23, _, fun_mk (st := s_within) l23 c23 k23, (fun_mk (st := s_within) l23 c23 k23).binds (ps := ["body", "least"]) (fun _ _ _ _ _ _ us hl => match us, hl with | [_, _], _ => rfl), PySem.W.mg_of X G a23⟩,
    body_text := ⟨f24, _, fun_mk (st := s_body_text) l24 c24 k24, (fun_mk (st := s_body_text) l24 c24 k24).binds (ps := ["body"]) (fun _ _ _ _ _ _ us hl => match us, hl with | [_], _ => rfl), PySem.W.mg_of X G a24⟩,
    saying_text := ⟨f25, _, fun_mk (st := s_saying_text) l25 c25 k25, (fun_mk (st := s_saying_text) l25 c25 k25).binds (ps := ["saying"]) (fun _ _ _ _ _ _ us hl => match us, hl with | [_], _ => rfl), PySem.W.mg_of X G a25⟩,
    worth_in := ⟨f26, _, fun_mk (st := s_worth_in) l26 c26 k26, (fun_mk (st := s_worth_in) l26 c26 k26).binds (ps := ["body", "values", "prime"]) (fun _ _ _ _ _ _ us hl => match us, hl with | [_, _, _], _ => rfl), PySem.W.mg_of X G a26⟩,
    names_in := ⟨f27, _, fun_mk (st := s_names_in) l27 c27 k27, (fun_mk (st := s_names_in) l27 c27 k27).binds (ps := ["saying"]) (fun _ _ _ _ _ _ us hl => match us, hl with | [_], _ => rfl), PySem.W.mg_of X G a27⟩,
    body_at := ⟨f28, _, fun_mk (st := s_body_at) l28 c28 k28, (fun_mk (st := s_body_at) l28 c28 k28).binds (ps := ["saying", "place", "prime"]) (fun _ _ _ _ _ _ us hl => match us, hl with | [_, _, _], _ => rfl), PySem.W.mg_of X G a28⟩,
    holds := ⟨f29, _, fun_mk (st := s_holds) l29 c29 k29, (fun_mk (st := s_holds) l29 c29 k29).binds (ps := ["saying", "place"]) (fun _ _ _ _ _ _ us hl => match us, hl with | [_, _], _ => rfl), PySem.W.mg_of X G a29⟩,
    truth := ⟨f30, _, fun_mk (st := s_truth) l30 c30 k30, (fun_mk (st := s_truth) l30 c30 k30).binds (ps := ["saying"]) (fun _ _ _ _ _ _ us hl => match us, hl with | [_], _ => rfl), PySem.W.mg_of X G a30⟩,
    look_prime := ⟨f31, _, fun_mk (st := s_look_prime) l31 c31 k31, (fun_mk (st := s_look_prime) l31 c31 k31).binds (ps := ["prime"]) (fun _ _ _ _ _ _ us hl => match us, hl with | [_], _ => rfl), PySem.W.mg_of X G a31⟩,
    are_rests := ⟨f32, _, fun_mk (st := s_are_rests) l32 c32 k32, (fun_mk (st := s_are_rests) l32 c32 k32).binds (ps := ["row", "prime"]) (fun _ _ _ _ _ _ us hl => match us, hl with | [_, _], _ => rfl), PySem.W.mg_of X G a32⟩,
    look_place := ⟨f33, _, fun_mk (st := s_look_place) l33 c33 k33, (fun_mk (st := s_look_place) l33 c33 k33).binds (ps := ["place", "letters", "prime"]) (fun _ _ _ _ _ _ us hl => match us, hl with | [_, _, _], _ => rfl), PySem.W.mg_of X G a33⟩,
    body_worth := ⟨f34, _, funA_of l34 c34 k34, PySem.W.mg_of X G a34, ds34, bv34, bd34, kbn_of (fun us ws h1 h2 => match us, h1, ws, h2 with | [_, _], _, [_], _ => rfl)⟩,
    degrees_in := ⟨f35, _, fun_mk (st := s_degrees_in) l35 c35 k35, (fun_mk (st := s_degrees_in) l35 c35 k35).binds (ps := ["saying"]) (fun _ _ _ _ _ _ us hl => match us, hl with | [_], _ => rfl), PySem.W.mg_of X G a35⟩,
    saying_question := ⟨f36, _, funA_of l36 c36 k36, PySem.W.mg_of X G a36, ds36, bv36, bd36, kbn_of (fun us ws h1 h2 => match us, h1, ws, h2 with | [_, _], _, [_], _ => rfl)⟩,
    names_of := ⟨f37, _, fun_mk (st := s_names_of) l37 c37 k37, (fun_mk (st := s_names_of) l37 c37 k37).binds (ps := ["saying"]) (fun _ _ _ _ _ _ us hl => match us, hl with | [_], _ => rfl), PySem.W.mg_of X G a37⟩,
    degrees := ⟨f38, _, fun_mk (st := s_degrees) l38 c38 k38, (fun_mk (st := s_degrees) l38 c38 k38).binds (ps := ["saying"]) (fun _ _ _ _ _ _ us hl => match us, hl with | [_], _ => rfl), PySem.W.mg_of X G a38⟩,
    law_same := ⟨f39, _, fun_mk (st := s_law_same) l39 c39 k39, (fun_mk (st := s_law_same) l39 c39 k39).binds (ps := ["_law_found", "_law_due"]) (fun _ _ _ _ _ _ us hl => match us, hl with | [_, _], _ => rfl), PySem.W.mg_of X G a39⟩,
    law := ⟨f40, _, cc40, P40, funC_of l40 c40 k40, (fun_mk (st := s_law) l40 c40 k40).binds (ps := ["_law_script"]) (fun _ _ _ _ _ _ us hl => match us, hl with | [_], _ => rfl), PySem.W.mg_of X G a40, t40⟩,
    z_all := PySem.W.mg_none_of X G z0,
    z_len := PySem.W.mg_none_of X G z1,
    z_list := PySem.W.mg_none_of X G z2,
    z_isinstance := PySem.W.mg_none_of X G z3,
    z_tuple := PySem.W.mg_none_of X G z4,
    z_str := PySem.W.mg_none_of X G z5,
    z_zip := PySem.W.mg_none_of X G z6,
    z_any := PySem.W.mg_none_of X G z7,
    z_max := PySem.W.mg_none_of X G z8,
    z_range := PySem.W.mg_none_of X G z9,
    z_bool := PySem.W.mg_none_of X G z10,
    z_int := PySem.W.mg_none_of X G z11,
    z_set := PySem.W.mg_none_of X G z12,
    a_PRIMES := g0,
    c_PRIMES := PySem.W.mg_of X G y0,
    q_PRIMES := fun H => sqT_K yl0 yc0 yd0 yv0 (by decide),
    c_PRIME := ⟨_, PySem.W.mg_of X G y1⟩,
    a_WORDS := g2,
    c_WORDS := PySem.W.mg_of X G y2,
    q_WORDS := fun H => sqT_K yl2 yc2 yd2 yv2 (by decide),
    c_LETTERS := ⟨_, PySem.W.mg_of X G y3⟩,
    a_BANDS := g4,
    c_BANDS := PySem.W.mg_of X G y4,
    q_BANDS := ⟨ys4, by decide, ob4, es4, ep4, yl4, yx4, yd4, ya4, yh4⟩,
    a_JOINTS := g5,
    c_JOINTS := PySem.W.mg_of X G y5,
    q_JOINTS := ⟨ys5, by decide, ob5, es5, ep5, yl5, yx5, yd5, ya5, yh5⟩,
    c_LONGEST := ⟨_, PySem.W.mg_of X G y6⟩,
    c_MOST_FRONT := ⟨_, PySem.W.mg_of X G y7⟩,
    c_MOST_PARTS := ⟨_, PySem.W.mg_of X G y8⟩,
    c_MOST_DEEP := ⟨_, PySem.W.mg_of X G y9⟩,
    c_MOST_OFTEN := ⟨_, PySem.W.mg_of X G y10⟩,
    x_LookError := ⟨C0, g_0, _, PySem.W.mg_of X G xg0, funA_of (st := s_LookError_init) xf0 xc0 xk0, binds_df xt0 xq0 (fun us hl => match us, hl with | [_, _], _ => ⟨_, rfl, rfl⟩), ⟨xrd0, xga0⟩, xfc0⟩,
    x_HallError := ⟨C1, g_1, _, PySem.W.mg_of X G xg1, funA_of (st := s_HallError_init) xf1 xc1 xk1, binds_df xt1 xq1 (fun us hl => match us, hl with | [_, _], _ => ⟨_, rfl, rfl⟩), ⟨xrd1, xga1⟩, xfc1⟩,
    x_BadPrime := ⟨C2, g_2, _, PySem.W.mg_of X G xg2, ⟨⟨nm2, qq2, NN2, bs2, bm2, sn2, sub2, ab2, col2, dd2, k0_2, k1_2, k2_2, k3_2, k5_2, xl2, xr2⟩, xsa2, xex2, xty2, xkc2⟩, xi2, xti2, funA_of (st := s_BadPrime_init) xf2 xc2 xk2, .all (fun us hl => match us, hl with | [_], _ => rfl), xfB_ok xxf2, xno2⟩,
    up_BadPrime := xup2,
    x_BadPlace := ⟨C3, g_3, _, PySem.W.mg_of X G xg3, ⟨⟨nm3, qq3, NN3, bs3, bm3, sn3, sub3, ab3, col3, dd3, k0_3, k1_3, k2_3, k3_3, k5_3, xl3, xr3⟩, xsa3, xex3, xty3, xkc3⟩, xi3, xti3, funA_of (st := s_BadPlace_init) xf3 xc3 xk3, .all (fun us hl => match us, hl with | [_], _ => rfl), xfB_ok xxf3, xno3⟩,
    up_BadPlace := xup3,
    x_BadSaying := ⟨C4, g_4, _, PySem.W.mg_of X G xg4, ⟨⟨nm4, qq4, NN4, bs4, bm4, sn4, sub4, ab4, col4, dd4, k0_4, k1_4, k2_4, k3_4, k5_4, xl4, xr4⟩, xsa4, xex4, xty4, xkc4⟩, xi4, xti4, funA_of (st := s_BadSaying_init) xf4 xc4 xk4, .all (fun us hl => match us, hl with | [_], _ => rfl), xfB_ok xxf4, xno4⟩,
    up_BadSaying := xup4,
    x_BadQuestion := ⟨C5, g_5, _, PySem.W.mg_of X G xg5, ⟨⟨nm5, qq5, NN5, bs5, bm5, sn5, sub5, ab5, col5, dd5, k0_5, k1_5, k2_5, k3_5, k5_5, xl5, xr5⟩, xsa5, xex5, xty5, xkc5⟩, xi5, xti5, funA_of (st := s_BadQuestion_init) xf5 xc5 xk5, .all (fun us hl => match us, hl with | [_], _ => rfl), xfB_ok xxf5, xno5⟩,
    up_BadQuestion := xup5 }
  obtain ⟨h1_40, h2_40⟩ := tabs _ _ _ _ hrec t40
  refine ⟨T.law.fd, [(cc40, P40)], sp_law K P40, fun p hp => ?_, fun p hp => ?_, fun p hp => ?_, fun s v => .of_eq rfl, fun H a ns hl _ hH hS => ⟨a, ns, rfl, hS, hl, hH _ (List.mem_singleton.mpr rfl), fun _ => rfl⟩, fun base _ _ TB => ok_law T (TB _ (List.mem_singleton.mpr rfl))⟩
  · rw [List.mem_singleton.mp hp]
    exact h2_40
  · rw [List.mem_singleton.mp hp]
    exact u40
  · rw [List.mem_singleton.mp hp]
    exact h1_40
end Wk
open PySem PySem.W PyProof.Rows
set_option maxHeartbeats 0 in
theorem PySem.Challenge.cw_weaklook_k20_sayings_that_are_none_holds : PySem.Challenge.rw_weaklook_k20_sayings_that_are_none.Holds := by
  w_on; o_law; k_head; (case hw => w_witness2)
  k_fill
  refine Wk.walk_W (l := PySem.Challenge.rw_weaklook_k20_sayings_that_are_none) (n := 63) (k := 40) (x := "_law_script") (CX := fun w => L2.CX PySem.Challenge.rw_weaklook_k20_sayings_that_are_none.prog w) rfl (by decide) rfl ⟨rfl, by decide, by decide⟩ (fun w h Y => by first | exact PySem.W.kIn_of Y | exact PySem.W.km_in_of Y) ?F (fun _ _ _ _ _ h => Wk.cx_no h)
  case F =>
    intro w mg fa h KX G hmg tabs
    refine' Wk.all_mk KX G hmg tabs ?hrec ?a0 ?l0 ?c0 ?k0 ?a1 ?l1 ?c1 ?k1 ?a2 ?l2 ?c2 ?k2 ?a3 ?l3 ?c3 ?k3 ?a4 ?l4 ?c4 ?k4 ?a5 ?l5 ?c5 ?k5 ?a6 ?l6 ?c6 ?k6 ?a7 ?l7 ?c7 ?k7 ?a8 ?l8 ?c8 ?k8 ?a9 ?l9 ?c9 ?k9 ?a10 ?l10 ?c10 ?k10 ?a11 ?l11 ?c11 ?k11 ?a12 ?l12 ?c12 ?k12 ?a13 ?l13 ?c13 ?k13 ?a14 ?l14 ?c14 ?k14 ?a15 ?l15 ?c15 ?k15 ?a16 ?l16 ?c16 ?k16 ?a17 ?l17 ?c17 ?k17 ?a18 ?l18 ?c18 ?k18 ?a19 ?l19 ?c19 ?k19 ?a20 ?l20 ?c20 ?k20 ?a21 ?l21 ?c21 ?k21 ?a22 ?l22 ?c22 ?k22 ?a23 ?l23 ?c23 ?k23 ?a24 ?l24 ?c24 ?k24 ?a25 ?l25 ?c25 ?k25 ?a26 ?l26 ?c26 ?k26 ?a27 ?l27 ?c27 ?k27 ?a28 ?l28 ?c28 ?k28 ?a29 ?l29 ?c29 ?k29 ?a30 ?l30 ?c30 ?k30 ?a31 ?l31 ?c31 ?k31 ?a32 ?l32 ?c32 ?k32 ?a33 ?l33 ?c33 ?k33 ?a34 ?l34 ?c34 ?k34 ?kd34_0 ?a35 ?l35 ?c35 ?k35 ?a36 ?l36 ?c36 ?k36 ?kd36_0 ?a37 ?l37 ?c37 ?k37 ?a38 ?l38 ?c38 ?k38 ?a39 ?l39 ?c39 ?k39 ?a40 ?l40 ?c40 ?k40 ?tl40 ?tf40 ?tp40 ?t40 ?u40 ?z0 ?z1 ?z2 ?z3 ?z4 ?z5 ?z6 ?z7 ?z8 ?z9 ?z10 ?z11 ?z12 ?y0 ?yl0 ?yc0 ?yd0 ?yv0 ?y1 ?y2 ?yl2 ?yc2 ?yd2 ?yv2 ?y3 ?y4 ?yl4 ?yx4 ?yd4 ?ya4 ?yh4 ?ys4 ?y5 ?yl5 ?yx5 ?yd5 ?ya5 ?yh5 ?ys5 ?y6 ?y7 ?y8 ?y9 ?y10 ?xg0 ?xfc0 ?xf0 ?xc0 ?xk0 ?xt0 ?xq0 ?xrd0 ?xga0 ?xg1 ?xfc1 ?xf1 ?xc1 ?xk1 ?xt1 ?xq1 ?xrd1 ?xga1 ?xg2 ?xi2 ?xf2 ?xc2 ?xk2 ?xl2 ?xr2 ?xsa2 ?xex2 ?xty2 ?xkc2 ?xti2 ?xxf2 ?xno2 ?xup2 ?xg3 ?xi3 ?xf3 ?xc3 ?xk3 ?xl3 ?xr3 ?xsa3 ?xex3 ?xty3 ?xkc3 ?xti3 ?xxf3 ?xno3 ?xup3 ?xg4 ?xi4 ?xf4 ?xc4 ?xk4 ?xl4 ?xr4 ?xsa4 ?xex4 ?xty4 ?xkc4 ?xti4 ?xxf4 ?xno4 ?xup4 ?xg5 ?xi5 ?xf5 ?xc5 ?xk5 ?xl5 ?xr5 ?xsa5 ?xex5 ?xty5 ?xkc5 ?xti5 ?xxf5 ?xno5 ?xup5
    (case hrec => rfl)
    (case a0 => k_is)
    (case l0 => k_is)
    (case c0 => k_is)
    (case k0 => k_is)
    (case a1 => k_is)
    (case l1 => k_is)
    (case c1 => k_is)
    (case k1 => k_is)
    (case a2 => k_is)
    (case l2 => k_is)
    (case c2 => k_is)
    (case k2 => k_is)
    (case a3 => k_is)
    (case l3 => k_is)
    (case c3 => k_is)
    (case k3 => k_is)
    (case a4 => k_is)
    (case l4 => k_is)
    (case c4 => k_is)
    (case k4 => k_is)
    (case a5 => k_is)
    (case l5 => k_is)
    (case c5 => k_is)
    (case k5 => k_is)
    (case a6 => k_is)
    (case l6 => k_is)
    (case c6 => k_is)
    (case k6 => k_is)
    (case a7 => k_is)
    (case l7 => k_is)
    (case c7 => k_is)
    (case k7 => k_is)
    (case a8 => k_is)
    (case l8 => k_is)
    (case c8 => k_is)
    (case k8 => k_is)
    (case a9 => k_is)
    (case l9 => k_is)
    (case c9 => k_is)
    (case k9 => k_is)
    (case a10 => k_is)
    (case l10 => k_is)
    (case c10 => k_is)
    (case k10 => k_is)
    (case a11 => k_is)
    (case l11 => k_is)
    (case c11 => k_is)
    (case k11 => k_is)
    (case a12 => k_is)
    (case l12 => k_is)
    (case c12 => k_is)
    (case k12 => k_is)
    (case a13 => k_is)
    (case l13 => k_is)
    (case c13 => k_is)
    (case k13 => k_is)
    (case a14 => k_is)
    (case l14 => k_is)
    (case c14 => k_is)
    (case k14 => k_is)
    (case a15 => k_is)
    (case l15 => k_is)
    (case c15 => k_is)
    (case k15 => k_is)
    (case a16 => k_is)
    (case l16 => k_is)
    (case c16 => k_is)
    (case k16 => k_is)
    (case a17 => k_is)
    (case l17 => k_is)
    (case c17 => k_is)
    (case k17 => k_is)
    (case a18 => k_is)
    (case l18 => k_is)
    (case c18 => k_is)
    (case k18 => k_is)
    (case a19 => k_is)
    (case l19 => k_is)
    (case c19 => k_is)
    (case k19 => k_is)
    (case a20 => k_is)
    (case l20 => k_is)
    (case c20 => k_is)
    (case k20 => k_is)
    (case a21 => k_is)
    (case l21 => k_is)
    (case c21 => k_is)
    (case k21 => k_is)
    (case a22 => k_is)
    (case l22 => k_is)
    (case c22 => k_is)
    (case k22 => k_is)
    (case a23 => k_is)
    (case l23 => k_is)
    (case c23 => k_is)
    (case k23 => k_is)
    (case a24 => k_is)
    (case l24 => k_is)
    (case c24 => k_is)
    (case k24 => k_is)
    (case a25 => k_is)
    (case l25 => k_is)
    (case c25 => k_is)
    (case k25 => k_is)
    (case a26 => k_is)
    (case l26 => k_is)
    (case c26 => k_is)
    (case k26 => k_is)
    (case a27 => k_is)
    (case l27 => k_is)
    (case c27 => k_is)
    (case k27 => k_is)
    (case a28 => k_is)
    (case l28 => k_is)
    (case c28 => k_is)
    (case k28 => k_is)
    (case a29 => k_is)
    (case l29 => k_is)
    (case c29 => k_is)
    (case k29 => k_is)
    (case a30 => k_is)
    (case l30 => k_is)
    (case c30 => k_is)
    (case k30 => k_is)
    (case a31 => k_is)
    (case l31 => k_is)
    (case c31 => k_is)
    (case k31 => k_is)
    (case a32 => k_is)
    (case l32 => k_is)
    (case c32 => k_is)
    (case k32 => k_is)
    (case a33 => k_is)
    (case l33 => k_is)
    (case c33 => k_is)
    (case k33 => k_is)
    (case a34 => k_is)
    (case l34 => k_is)
    (case c34 => k_is)
    (case k34 => k_is)
    (case kd34_0 => k_is)
    (case a35 => k_is)
    (case l35 => k_is)
    (case c35 => k_is)
    (case k35 => k_is)
    (case a36 => k_is)
    (case l36 => k_is)
    (case c36 => k_is)
    (case k36 => k_is)
    (case kd36_0 => k_is)
    (case a37 => k_is)
    (case l37 => k_is)
    (case c37 => k_is)
    (case k37 => k_is)
    (case a38 => k_is)
    (case l38 => k_is)
    (case c38 => k_is)
    (case k38 => k_is)
    (case a39 => k_is)
    (case l39 => k_is)
    (case c39 => k_is)
    (case k39 => k_is)
    (case a40 => k_is)
    (case l40 => k_is)
    (case c40 => k_is)
    (case k40 => k_is)
    (case tl40 => k_is)
    (case tf40 => rfl)
    (case tp40 => rfl)
    (case t40 => kernel_rfl)
    (case u40 => kernel_rfl)
    (case z0 => k_is)
    (case z1 => k_is)
    (case z2 => k_is)
    (case z3 => k_is)
    (case z4 => k_is)
    (case z5 => k_is)
    (case z6 => k_is)
    (case z7 => k_is)
    (case z8 => k_is)
    (case z9 => k_is)
    (case z10 => k_is)
    (case z11 => k_is)
    (case z12 => k_is)
    (case y0 => k_is)
    (case yl0 => k_is)
    (case yc0 => rfl)
    (case yd0 => rfl)
    (case yv0 => rfl)
    (case y1 => k_is)
    (case y2 => k_is)
    (case yl2 => k_is)
    (case yc2 => rfl)
    (case yd2 => rfl)
    (case yv2 => rfl)
    (case y3 => k_is)
    (case y4 => k_is)
    (case yl4 => k_is)
    (case yx4 => exact ⟨rfl, rfl, rfl⟩)
    (case yd4 => rfl)
    (case ya4 => rfl)
    (case yh4 => rfl)
    (case ys4 => rfl)
    (case y5 => k_is)
    (case yl5 => k_is)
    (case yx5 => exact ⟨rfl, rfl, rfl⟩)
    (case yd5 => rfl)
    (case ya5 => rfl)
    (case yh5 => rfl)
    (case ys5 => rfl)
    (case y6 => k_is)
    (case y7 => k_is)
    (case y8 => k_is)
    (case y9 => k_is)
    (case y10 => k_is)
    (case xg0 => k_is)
    (case xfc0 => k_is)
    (case xf0 => k_is)
    (case xc0 => k_is)
    (case xk0 => k_is)
    (case xt0 => k_is)
    (case xq0 => rfl)
    (case xrd0 => k_is)
    (case xga0 => k_is)
    (case xg1 => k_is)
    (case xfc1 => k_is)
    (case xf1 => k_is)
    (case xc1 => k_is)
    (case xk1 => k_is)
    (case xt1 => k_is)
    (case xq1 => rfl)
    (case xrd1 => k_is)
    (case xga1 => k_is)
    (case xg2 => k_is)
    (case xi2 => k_is)
    (case xf2 => k_is)
    (case xc2 => k_is)
    (case xk2 => k_is)
    (case xl2 => k_is)
    (case xr2 => rfl)
    (case xsa2 => k_is)
    (case xex2 => k_is)
    (case xty2 => k_is)
    (case xkc2 => k_is)
    (case xti2 => k_is)
    (case xxf2 => kernel_rfl)
    (case xno2 => k_is)
    (case xup2 => kernel_rfl)
    (case xg3 => k_is)
    (case xi3 => k_is)
    (case xf3 => k_is)
    (case xc3 => k_is)
    (case xk3 => k_is)
    (case xl3 => k_is)
    (case xr3 => rfl)
    (case xsa3 => k_is)
    (case xex3 => k_is)
    (case xty3 => k_is)
    (case xkc3 => k_is)
    (case xti3 => k_is)
    (case xxf3 => kernel_rfl)
    (case xno3 => k_is)
    (case xup3 => kernel_rfl)
    (case xg4 => k_is)
    (case xi4 => k_is)
    (case xf4 => k_is)
    (case xc4 => k_is)
    (case xk4 => k_is)
    (case xl4 => k_is)
    (case xr4 => rfl)
    (case xsa4 => k_is)
    (case xex4 => k_is)
    (case xty4 => k_is)
    (case xkc4 => k_is)
    (case xti4 => k_is)
    (case xxf4 => kernel_rfl)
    (case xno4 => k_is)
    (case xup4 => kernel_rfl)
    (case xg5 => k_is)
    (case xi5 => k_is)
    (case xf5 => k_is)
    (case xc5 => k_is)
    (case xk5 => k_is)
    (case xl5 => k_is)
    (case xr5 => rfl)
    (case xsa5 => k_is)
    (case xex5 => k_is)
    (case xty5 => k_is)
    (case xkc5 => k_is)
    (case xti5 => k_is)
    (case xxf5 => kernel_rfl)
    (case xno5 => k_is)
    (case xup5 => kernel_rfl)
