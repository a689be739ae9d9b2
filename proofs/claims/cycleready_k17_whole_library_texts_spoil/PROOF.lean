import PyProof.Rows.All
import Wide.All
import OpenK.AllK
import Wide.FinOn
import PyProof.CollectIter
import PyProof.Walks
import KE.KUnpack
import HandS.ForMost
import HandS.Zip
import KE.GoesMore
import KE.GoesEnum
import HandS.Exc
import HandS.TryOnly
import HandS.ExcInit
import HandS.ExcIs
import HandS.ExcField
import HandS.IsInst
import KE.KExcIs
import HandS.FStr
import KE.KStateDown
import HandS.More
import HandS.Defaults
import HandS.Flow
import HandS.Evl
import PySem.Challenge.RW_cycleready_k17_whole_library_texts_spoil
import PyProof.NeData
import HandS.Style
import HandS.RaiseMore
import HandS.WordsDict
import HandS.Text
import KE.IntTextText
import KE.IntTextLaws
import HandS.ExcOwn
import HandS.WordsExc
import HandS.HeadHook1
import HandS.HeadHook2
import HandS.HeadHook3
import HandS.HeadHook4
import HandS.Head0
import HandS.Head1
import HandS.Head2
import HandS.HeadEnd
import HandS.MakeKwOnly
import HandS.DictComp
import HandS.Replace
import HandS.ReplaceLit
import HandS.Comp
import HandS.Ends
import HandS.EndBits
import HandS.WideBits
set_option Elab.async false
set_option linter.all false
set_option maxRecDepth 100000
-- text K17Rules
set_option maxHeartbeats 4000000
/-! ## own rules: match over a text, a starred target, zip of a tuple and a list -/
namespace K17
open PySem PySem.Spec PyProof.Rows L2

/-! ### match subject: case 'text': .. case _: .. -/
structure PMs (X : Cx) (cases : List MatchCase) (tm : Str → TS) : Prop where
  run : ∀ (first : Bool) (z : Str) (u : Value) (pins : List (Addr × Obj)) (s : Shared) (σ : L2.St) (H : Hp) (D : Ends), Inv X pins σ H s → RelV (.str z) u → tm z D σ H →
    wpAny (model X.prog X.w) X.A (matchCases cases X.env u first) (SP X pins D) X.xe s
def tmVal (c : Str) (tb : TS) (tr : Str → TS) : Str → TS := fun z D σ H => if decide (V.str z = V.str c) = true then tb D σ H else tr z D σ H
def tmAll (tb : TS) : Str → TS := fun _ => tb
section
variable {X : Cx}
theorem pm_val {c : Str} {j : Nat} {cp p : Pos} {body : List Stmt} {rest : List MatchCase} {tb : TS} {tr : Str → TS} (hb : PSs X body tb) (hr : PMs X rest tr) :
    PMs X (⟨.MatchValue (.Constant (.str c) j cp) p, none, body⟩ :: rest) (tmVal c tb tr) := by
  refine ⟨fun first z u pins s σ H D I r h => ?_⟩
  unfold matchCases
  have key : wpAny (model X.prog X.w) X.A (matchPattern (.MatchValue (.Constant (.str c) j cp) p) X.env u)
      (fun o s' => o = (if decide (V.str z = V.str c) = true then some [] else none) ∧ Inv X pins σ H s') X.xe s := by
    unfold matchPattern
    refine wpAny_bind (thn (pe_str.run pins s σ H (fun v H' => v = .str c ∧ H' = H) I ⟨rfl, rfl⟩) fun v s1 ⟨x, H1, I1, rx, ex, eh⟩ => ?_)
    subst ex eh
    refine wpAny_bind (wpAny_standAt (wpAny_bind ?_))
    refine thn (op_eq pins s1 σ H1 (.str z) (.str c) u v (fun y H' => y = .bl (decide (V.str z = V.str c)) ∧ H' = H1) I1 r rx ⟨rfl, rfl, rfl⟩) fun b s2 ⟨y, H2, I2, ry, ey, eh⟩ => ?_
    subst ey eh
    obtain rfl : b = Value.bool (decide (V.str z = V.str c)) := ry
    refine wpAny_bind (wpAny_pure ?_)
    by_cases e : decide (V.str z = V.str c) = true
    · rw [e]
      exact wpAny_pure ⟨rfl, I2⟩
    · have e' : decide (V.str z = V.str c) = false := by simpa using e
      rw [e']
      exact wpAny_pure ⟨rfl, I2⟩
  refine wpAny_bind (wpAny_holding (thn key fun o s1 ⟨eo, I1⟩ => ?_))
  subst eo
  have h' : if decide (V.str z = V.str c) = true then tb D σ H else tr z D σ H := h
  by_cases e : decide (V.str z = V.str c) = true
  · rw [if_pos e] at h' ⊢
    dsimp only
    refine wpAny_bind (wpAny_holding (wpAny_pure (wpAny_bind (wpAny_pure ?_))))
    exact hb.run pins s1 σ H D I1 h'
  · rw [if_neg e] at h' ⊢
    exact hr.run false z u pins s1 σ H D I1 r h'
theorem pm_all {p : Pos} {body : List Stmt} {tb : TS} (hb : PSs X body tb) : PMs X [⟨.MatchAs none none p, none, body⟩] (tmAll tb) := by
  refine ⟨fun first z u pins s σ H D I r h => ?_⟩
  unfold matchCases
  refine wpAny_bind (wpAny_holding (wpAny_pure ?_))
  dsimp only
  refine wpAny_bind (wpAny_holding (wpAny_pure (wpAny_bind (wpAny_pure ?_))))
  exact hb.run pins s σ H D I h
/-- match e: cases -/
def tMatch (te : TE) (tm : Str → TS) : TS := fun D σ H => te σ H fun x H1 => ∃ z, x = .str z ∧ tm z D σ H1
theorem ps_match {e : Expr} {cases : List MatchCase} {pos : Pos} {te : TE} {tm : Str → TS} (he : PE X e te) (hm : PMs X cases tm) : PS X (.Match e cases pos) (tMatch te tm) := by
  refine ⟨fun pins s σ H D I h => ?_⟩
  unfold exec
  refine wpAny_bind (wpAny_standAt (wpAny_bind ?_))
  refine thn (he.run pins s σ H _ I h) fun u s1 ⟨x, H1, I1, rx, z, ex, q⟩ => ?_
  subst ex
  exact hm.run true z u pins s1 σ H1 D I1 rx q
end
/-! ### x, *y = a list -/
theorem walkTail {prog : Program} {w : World} {A : Around} (hh : A.handled = none) (I ax : Addr) (hne : ax ≠ I) (items : Array Value) :
    WalksS prog w A I [I, ax] [I] (fun a b => a = b) (items.size - 1) (fun i v => items[i + 1]? = some v) (fun i s => s.heap.IsListIter I ax (i + 1) ∧ s.heap.IsList ax items ∧ 1 ≤ items.size) where
  sub := fun b hb => by simp at hb; simp [hb]
  grefl := fun _ => rfl
  gtrans := fun _ _ _ h1 h2 => h1.trans h2
  frame := fun _ _ _ _ st _ hk => ⟨st.1.at fun o e => hk I (by simp) o e, st.2.1.at fun o e => hk ax (by simp) o e, st.2.2⟩
  item := fun i s Q E hi st hQ => by
    have h1 := st.2.2
    have hl : i + 1 < items.size := by omega
    refine wpAny_pyNext_list_item st.1 st.2.1 (x := items[i + 1]) (by simp [hl]) fun h' hit' hs' => ?_
    exact hQ _ { s with heap := h' } (by simp [hl]) ⟨hit', st.2.1.extBut hs'.extBut hne, h1⟩ ⟨fun b o hb e => hs'.extBut b o (fun h => hb (by simp [h])) e, rfl, rfl, rfl, Nat.le_refl _⟩
  done := fun s Q E st hQ => by
    have h1 := st.2.2
    refine wpAny_pyNext_list_end hh st.1 st.2.1 (by simp; omega) fun h' he' => ?_
    exact hQ { s with heap := h' } ⟨fun b o hb e => he' b o (fun h => hb (by simp [h])) e, rfl, rfl, rfl, Nat.le_refl _⟩
  self := fun _ _ _ _ st hQ => wpAny_pyIter_listiter st.1 hQ
section
variable {prog : Program} {w : World} {A : Around} {E : Value → Shared → Prop} {s : Shared}
theorem tail_items {items : Array Value} {acc : Array Value} (h : ItemsOf (fun i v => items[i + 1]? = some v) acc (items.size - 1)) : acc.toList = items.toList.drop 1 := by
  refine List.ext_getElem? fun i => ?_
  rw [List.getElem?_drop, Nat.add_comm 1 i]
  by_cases hi : i < acc.size
  · have e : acc[i]? = some acc[i] := by simp [hi]
    have q := h.2 i _ e
    rw [Array.getElem?_toList, Array.getElem?_toList, q, e]
  · have hs := h.1
    rw [Array.getElem?_toList, Array.getElem?_toList, Array.getElem?_eq_none (by omega), Array.getElem?_eq_none (by omega)]
theorem unpackStar {l : Addr} {items : Array Value} {x : Value} {r : List Value} {Q : List Value → Shared → Prop} (hh : A.handled = none) (hl : s.heap.IsList l items) (he : items.toList = x :: r) (hz : items.size ≤ sizeLine)
    (hQ : ∀ (h' : Heap) (tk : Nat), (∀ b o, s.heap.get? b = some o → h'.get? b = some o) → Q [x, .ref h'.objs.size] { s with heap := h'.push { cls := .type "list", data := .seq r.toArray }, toks := tk }) :
    wpAny (model prog w) A (unpackItems (.ref l) 2 (some 1)) Q E s := by
  have hlt : l ≠ s.heap.objs.size := by obtain ⟨o, ho, _⟩ := hl; exact Nat.ne_of_lt (Heap.lt_size ho)
  have hsz : items.size = r.length + 1 := by
    have e := congrArg List.length he
    simpa using e
  unfold unpackItems
  refine wpAny_bind ?_
  unfold notIterableAtAll
  refine wpAny_bind (wpAny_specialOf hl.typeIs slot_list_iter.lookup ?_)
  refine wpAny_pure ?_
  simp only [Bool.false_eq_true, if_false]
  refine wpAny_bind (wpAny_holding (wpAny_pyIter_list hl ?_))
  refine wpAny_bind (wpAny_holding (PySem.W.kun_draw hlt 1 0 _ _ ⟨_, Heap.get?_push_size _ rfl, rfl, rfl⟩ (hl.push _) (by omega) fun h1 hit1 hs1 => ?_))
  have hone : List.take 1 (List.drop 0 items.toList) = [x] := by rw [List.drop_zero, he]; rfl
  rw [hone]
  rw [if_neg (by simp)]
  have hl1 : h1.IsList l items := (hl.push _).extBut hs1.extBut hlt
  have k1 : ∀ b o, s.heap.get? b = some o → h1.get? b = some o := fun b o e => hs1.extBut b o (Nat.ne_of_lt (Heap.lt_size e)) (Heap.get?_push_of_some _ e)
  have lt1 : s.heap.objs.size < h1.objs.size := by obtain ⟨o, ho, _⟩ := hit1; exact Heap.lt_size ho
  have lt2 : l < h1.objs.size := by obtain ⟨o, ho, _⟩ := hl1; exact Heap.lt_size ho
  refine wpAny_bind (wpAny_holding (wpAny_collect_iter (T := "list_iterator") (.inr (.inr (.inl rfl))) (walkTail (A := A.in1) hh s.heap.objs.size l hlt items) (fun i s' st => st.1.typeIs) ⟨hit1, hl1, by omega⟩ (fun b hb => ?_) (by simp) (fun s2 acc hm ha => ?_) (by omega)))
  · rcases List.mem_cons.mp hb with e | hb
    · rw [e]; exact lt1
    · rw [List.mem_singleton.mp hb]; exact lt2
  · have ea : acc.toList = r := by rw [tail_items ha, he]; rfl
    rw [ea]
    rw [if_neg (by omega)]
    simp only [Nat.add_one_sub_one, Nat.sub_self, Nat.sub_zero, List.take_length, List.drop_length]
    obtain ⟨hp2, g2, d2, t2, os2⟩ := s2
    have e1 : s.gens = g2 := hm.gens
    have e2 : d2 = s.drawn := hm.drawn
    have e3 : os2 = s.os := hm.os
    subst e1 e2 e3
    refine wpAny_bind (wpAny_newObj_type ?_ (by show r.length ≤ sizeLine; omega))
    refine wpAny_pure ?_
    exact hQ hp2 t2 fun b o e => hm.heap b o (by simp; exact Nat.ne_of_lt (Heap.lt_size e)) (k1 b o e)
end
def gStar2 (K : PySem.W.Frag) (t : TGs) : TG := fun v σ H Q => ∃ a x r, v = .ref a ∧ SqL K H a (x :: r) ∧ ∀ p, H p = none → t [x, .ref p] σ (upd H p (.lst r)) Q
section
variable {X : Cx}
theorem pg_star2 {x y : Str} {px py ps pos : Pos} {k : Nat} {t : TGs} (hc : X.calm = true) (h : PGs X [.Name x px, .Name y py] t) : PG X (.Tuple [.Name x px, .Starred (.Name y py) ps] k pos) (gStar2 X.K t) := by
  refine ⟨fun pins s σ H v u Q I rv hw => ?_⟩
  obtain ⟨a, x0, r, e1, hq, hw⟩ := hw
  subst e1
  cases rv
  obtain ⟨its, rr, pl, hz⟩ := I.list hq
  cases rr with
  | @cons _ u0 _ ur r0 r1 =>
    rw [PyProof.Rows.assign_Tuple]
    refine wpAny_bind (wpAny_standAt ?_)
    unfold unpack
    refine wpAny_bind (wpAny_holding ?_)
    show wpAny (model X.prog X.w) X.A (unpackItems (.ref a) 2 (some 1)) _ _ _
    have hz' : (u0 :: ur).toArray.size ≤ sizeLine := by
      have e := r1.length
      simp only [List.size_toArray, List.length_cons] at hz ⊢
      omega
    refine unpackStar (x := u0) (r := ur) (I.ok.hd hc) pl.isList rfl hz' fun h' tk kk => ?_
    have I1 : Inv X pins σ H { s with heap := h', toks := tk } := I.kept (t' := tk) kk
    have hn : H h'.objs.size = none := I1.hok.fresh (Nat.le_refl _)
    have I2 : Inv X pins σ (upd H h'.objs.size (.lst r)) { s with heap := h'.push { cls := .type "list", data := .seq ur.toArray }, toks := tk } := by
      refine I1.laid (t' := tk) (fun b o e => Heap.get?_push_of_some _ e) (Nat.le_refl _) ⟨?_, ur, 0, r1, Heap.get?_push_size _ rfl⟩
      have e : (x0 :: r).length = r.length + 1 := rfl
      omega
    exact h.run pins _ σ _ [x0, .ref h'.objs.size] [u0, .ref h'.objs.size] Q I2 (.cons r0 (.cons rfl .nil)) (hw _ hn)
end
/-! ### zip of a tuple and a list of one length -/
def ItzM (K : PySem.W.Frag) (a b : Addr) : It :=
  ⟨fun i H => ∃ (xs ys : List V) (x y : V), SqT K H a xs ∧ SqL K H b ys ∧ xs[i]? = some x ∧ ys[i]? = some y,
    fun i H v H' => ∃ T x y, v = .ref T ∧ H T = none ∧ H' = upd H T (.tup [x, y]) ∧ (∀ xs, SqT K H a xs → xs[i]? = some x) ∧ ∀ ys, SqL K H b ys → ys[i]? = some y,
    fun i H => ∃ xs ys : List V, SqT K H a xs ∧ SqL K H b ys ∧ xs.length = i ∧ ys.length = i⟩
theorem plain_ist {h : Heap} {a : Addr} {its : Array Value} (p : IsTup h a its) : h.IsTuple a its := p
theorem turn_zipM {P : Program} {w : World} {K : PySem.W.Frag} {elts : List Expr} {kk : Nat} {tpos : Pos} {a b z TI TO i1 i2 : Addr} (D : ZipSep2 z TI TO i1 i2 [i1, a] [i2, b]) :
    Turn P w K (.Tuple elts kk tpos) (ItzM K a b) [z, TI, TO, i1, i2] z (fun i h => IsZip h z TI TO .none ∧ IsTupOf2 h TI (.ref i1) (.ref i2) ∧ (∃ x y, IsTupOf2 h TO x y) ∧ h.IsTupleIter i1 a i ∧ h.IsListIter i2 b i) where
  mem := by simp
  obj := fun i h st c hc => by
    obtain ⟨hz, hTI, ⟨x, y, hTO⟩, ⟨o1, e1, _, d1⟩, ⟨o2, e2, _, d2⟩⟩ := st
    simp only [List.mem_cons, List.not_mem_nil, or_false] at hc
    rcases hc with q | q | q | q | q <;> subst q
    · exact ⟨_, hz, fun v q => nomatch q⟩
    · exact ⟨_, hTI, fun v q => nomatch q⟩
    · exact ⟨_, hTO, fun v q => nomatch q⟩
    · exact ⟨o1, e1, fun v q => by rw [d1] at q; cases q⟩
    · exact ⟨o2, e2, fun v q => by rw [d2] at q; cases q⟩
  keep := fun i h h' st k => by
    obtain ⟨hz, hTI, ⟨x, y, hTO⟩, h1, h2⟩ := st
    exact ⟨k z (by simp) _ hz, k TI (by simp) _ hTI, ⟨x, y, k TO (by simp) _ hTO⟩, h1.at (k i1 (by simp)), h2.at (k i2 (by simp))⟩
  item := by
    intro X hP hw hK hc i pins s σ H E I hf st hg
    subst hP hw hK
    obtain ⟨hz, hTI, ⟨x0, y0, hTO⟩, h1, h2⟩ := st
    obtain ⟨xs, ys, x, y, hqx, hqy, hx, hy⟩ := hg
    obtain ⟨its, rv, p, _⟩ := I.tuple hqx
    obtain ⟨its2, rv2, p2, _⟩ := I.list hqy
    obtain ⟨u, hu, ru⟩ := rv.get hx
    obtain ⟨u2, hu2, ru2⟩ := rv2.get hy
    have hzl : z < s.heap.objs.size := Heap.lt_size hz
    have l1 : i < its.toArray.size := by
      have e := (List.getElem?_eq_some_iff.mp hu).1
      simpa using e
    have l2 : i < its2.toArray.size := by
      have e := (List.getElem?_eq_some_iff.mp hu2).1
      simpa using e
    have nea : a ≠ i1 := fun e => by
      obtain ⟨ot, et, ct, _⟩ := p
      obtain ⟨oi, ei, ci, _⟩ := h1
      rw [e, ei] at et
      rw [← Option.some.inj et, ci] at ct
      exact absurd ct (by decide)
    have neb : b ≠ i2 := fun e => by
      obtain ⟨ot, _, et, ct, _⟩ := p2
      obtain ⟨oi, ei, ci, _⟩ := h2
      rw [e, ei] at et
      rw [← Option.some.inj et, ci] at ct
      exact absurd ct (by decide)
    have hh := I.ok.hd hc
    refine wpAny_pyNext_zipD2_item D (Draws.tuple (A := X.A.in1) hh i1 a nea its.toArray) (Draws.list (A := X.A.in1) hh i2 b neb its2.toArray) hz hTI hTO ⟨h1, plain_ist p⟩ ⟨h2, p2.isList⟩ l1 l2 fun v1 v2 h' tk e1 e2 z' TO' st1 st2 hT hsz hk => ?_
    have e1' : v1 = u := by
      have q : its.toArray[i]? = some u := by simpa using hu
      rw [e1] at q
      exact Option.some.inj q
    have e2' : v2 = u2 := by
      have q : its2.toArray[i]? = some u2 := by simpa using hu2
      rw [e2] at q
      exact Option.some.inj q
    subst e1' e2'
    refine ⟨_, rfl, wpAny_letOwnedTupleGo_zip (s := { s with heap := h', toks := tk }) z' fun h'' z'' sb => ?_⟩
    have hT2 : h''.get? s.heap.objs.size = some { cls := .type "tuple", data := .seq #[v1, v2] } := (sb.2 _ (Nat.ne_of_gt hzl)).trans hT
    have nw : ObjOk X.prog X.w (upd H s.heap.objs.size (.tup [x, y])) h'' s.heap.objs.size (.tup [x, y]) :=
      ⟨by show 2 ≤ sizeLine; decide, [v1, v2], .cons ru (.cons ru2 .nil), ⟨_, hT2, rfl, _, rfl⟩⟩
    have I1 : Inv X pins σ (upd H s.heap.objs.size (.tup [x, y])) { s with heap := h'', toks := tk } :=
      I.turnedNew (t' := tk) (ch := [z, TI, TO, i1, i2]) (fun c o hb q => by
        simp only [List.mem_cons, List.not_mem_nil, or_false, not_or] at hb
        exact (sb.2 c hb.1).trans (hk c o hb.1 hb.2.2.1 hb.2.2.2.1 hb.2.2.2.2 q)) hf (Nat.le_refl _) nw
    refine ⟨.ref s.heap.objs.size, _, I1, rfl, ⟨_, x, y, rfl, I.hok.fresh (Nat.le_refl _), rfl, fun l hl => by rw [I.tuple_inj hl hqx]; exact hx, fun l hl => by rw [I.list_inj hl hqy]; exact hy⟩, ⟨z'', ?_, ⟨v1, v2, ?_⟩, ?_, ?_⟩, fun c hcm => ?_⟩
    · exact (sb.2 _ D.TIz).trans (hk _ _ D.TIz D.TITO D.TIi1 D.TIi2 hTI)
    · exact (sb.2 _ D.TOz).trans TO'
    · exact st1.1.at fun o q => (sb.2 _ D.zi1.symm).trans q
    · exact st2.1.at fun o q => (sb.2 _ D.zi2.symm).trans q
    · obtain ⟨oc, ec⟩ : ∃ oc, s.heap.get? c = some oc := by
        simp only [List.mem_cons, List.not_mem_nil, or_false] at hcm
        rcases hcm with q | q | q | q | q <;> subst q
        · exact ⟨_, hz⟩
        · exact ⟨_, hTI⟩
        · exact ⟨_, hTO⟩
        · obtain ⟨o, e, _⟩ := h1; exact ⟨o, e⟩
        · obtain ⟨o, e, _⟩ := h2; exact ⟨o, e⟩
      rw [upd_ne (Nat.ne_of_lt (Heap.lt_size ec))]
      exact (hf c hcm).1
  done := by
    intro X hP hw hK hc i pins s σ H E I hf st hg
    subst hP hw hK
    obtain ⟨hz, hTI, ⟨x0, y0, hTO⟩, h1, h2⟩ := st
    obtain ⟨xs, ys, hqx, hqy, n1, n2⟩ := hg
    obtain ⟨its, rv, p, _⟩ := I.tuple hqx
    obtain ⟨its2, rv2, p2, _⟩ := I.list hqy
    have l1 : its.toArray.size = i := by
      have e := rv.length
      simp only [List.size_toArray]
      omega
    have l2 : its2.toArray.size = i := by
      have e := rv2.length
      simp only [List.size_toArray]
      omega
    have nea : a ≠ i1 := fun e => by
      obtain ⟨ot, et, ct, _⟩ := p
      obtain ⟨oi, ei, ci, _⟩ := h1
      rw [e, ei] at et
      rw [← Option.some.inj et, ci] at ct
      exact absurd ct (by decide)
    have neb : b ≠ i2 := fun e => by
      obtain ⟨ot, _, et, ct, _⟩ := p2
      obtain ⟨oi, ei, ci, _⟩ := h2
      rw [e, ei] at et
      rw [← Option.some.inj et, ci] at ct
      exact absurd ct (by decide)
    have hh := I.ok.hd hc
    exact wpAny_pyNext_zipD2_end D (Draws.tuple (A := X.A.in1) hh i1 a nea its.toArray) (Draws.list (A := X.A.in1) hh i2 b neb its2.toArray) hz hTI hTO ⟨h1, plain_ist p⟩ ⟨h2, p2.isList⟩ (by omega) (by omega) (.inl (by omega)) fun h' tk hk => ⟨rfl, I.turnedL (t' := tk) (ch := [z, TI, TO, i1, i2]) (fun c o hb q => by
      simp only [List.mem_cons, List.not_mem_nil, or_false, not_or] at hb
      exact hk c o hb.1 hb.2.2.1 hb.2.2.2.1 hb.2.2.2.2 q) hf⟩
  self := fun A i s Q E st h => wpAny_pyIter_zip st.1 h
def iZipM (K : PySem.W.Frag) (ta : TA) : TI := fun σ H R => ta σ H fun vs H1 => ∃ a b xs ys, vs = [.ref a, .ref b] ∧ SqT K H1 a xs ∧ SqL K H1 b ys ∧ R (ItzM K a b) H1
theorem pi_zipM {X : Cx} {e e2 : Expr} {ta : TA} {p pos tpos : Pos} {elts : List Expr} {kk : Nat} (hg : Gl X "zip") (hm : X.mg "zip" = none) (ha : PA X [e, e2] ta)
    (hs : starEach [e, e2] X.env = (false, eval e X.env) :: starEach [e2] X.env := by rfl) (hpl : (backTo pos (starEach [e2] X.env)).any (·.1) = false := by rfl) :
    PI X (.Tuple elts kk tpos) (.Call (.Name "zip" p) [e, e2] [] pos) (iZipM X.K ta) := by
  refine ⟨fun pins s σ H R I h => ?_⟩
  refine Call_ (ld_blt I hg hm PyProof.Rows.boot_zip (PyProof.Rows.callWith_type1 (thn (ha.run pos pins s σ H _ I h) fun us s1 ⟨vs, H1, I1, r1, q1⟩ => ?_) hs hpl))
  obtain ⟨a, b, xs, ys, ex, hqx, hqy, q⟩ := q1
  subst ex
  cases r1 with
  | cons r rr =>
    cases rr with
    | cons r' rr =>
      cases rr
      cases r
      cases r'
      obtain ⟨its, rv, p1, _⟩ := I1.tuple hqx
      obtain ⟨its2, rv2, p2, _⟩ := I1.list hqy
      have la : a < s1.heap.objs.size := by obtain ⟨o1, ho1, _⟩ := id p1; exact Heap.lt_size ho1
      have lb : b < s1.heap.objs.size := p2.lt
      refine zip_begins2 (begins_tuple a its.toArray) (begins_list b its2.toArray) (plain_ist p1) p2.isList fun h' hz hTI hTO g1 g2 hsz hk => wpAny_pyIter_zip hz ?_
      have I2 : Inv X pins σ H1 { s1 with heap := h' } := I1.kept (t' := s1.toks) hk
      refine ⟨s1.heap.objs.size + 4, [s1.heap.objs.size + 4, s1.heap.objs.size + 2, s1.heap.objs.size + 3, s1.heap.objs.size, s1.heap.objs.size + 1], _, _, H1, rfl, I2, turn_zipM (zip_sep2 (fp1 := [a]) (fp2 := [b]) (fun c hc => by rw [List.mem_singleton.mp hc]; exact la) (fun c hc => by rw [List.mem_singleton.mp hc]; exact lb)), ⟨hz, hTI, ⟨_, _, hTO⟩, ⟨_, g1, rfl, rfl⟩, ⟨_, g2, rfl, rfl⟩⟩, fun c hcm => ?_, q⟩
      have hle : s1.heap.objs.size ≤ c := by
        simp only [List.mem_cons, List.not_mem_nil, or_false] at hcm
        rcases hcm with z | z | z | z | z <;> subst z <;> first | exact Nat.le_refl _ | exact Nat.le_add_right _ _
      exact I1.fpOk hle (I1.hok.fresh hle)
end K17

-- text K17Exc
set_option maxHeartbeats 4000000
/-! ## own rules: LoaderError.__init__(self, ..), isinstance of the caught error -/
namespace K17
open PySem PySem.Spec PyProof.Rows L2
section
variable {X : Cx} {e : Expr} {es : List Expr} {ta : TA} {p1 p2 pos : Pos}
theorem pe_ldinit {CL : Addr} {pl : Sem Bool} (hg : Gl X "LoaderError") (hm : X.mg "LoaderError" = some (.ref CL)) (rd : PySem.W.readsIn X.K CL (.type "type") = true)
    (ga : PySem.W.specialIn X.K (.ref CL) "__getattribute__" = some (some (.builtin "type.__getattribute__")))
    (vV : PySem.W.findCls X.K (.ref CL) (.type "type") "__init__" = some (.val (.builtin "ValueError.__init__"))) (ha : PA X (e :: es) ta)
    (hc : eval (.Call (.Attribute (.Name "LoaderError" p1) "__init__" p2) (e :: es) [] pos) X.env = (do
      let ov ← eval (.Name "LoaderError" p1) X.env
      standAt p2.atName
      let (f, first) ← holding [ov] (getMethod ov "__init__" pl)
      callWith pos f first (backTo pos (starEach (e :: es) X.env)) (backToKw pos (keywordEach [] X.env))) := by rfl)
    (he : starEach (e :: es) X.env = (false, eval e X.env) :: starEach es X.env := by rfl) (hpl : (backTo pos (starEach es X.env)).any (·.1) = false := by rfl) :
    PE X (.Call (.Attribute (.Name "LoaderError" p1) "__init__" p2) (e :: es) [] pos) (tVeI X.K ta) := by
  refine ⟨fun pins s σ H Q I h => ?_⟩
  refine PySem.W.methodCall_KW (ld_glob I hg hm ?_) hc
  refine PySem.W.method_cls I.kIn ga (PySem.W.cls_value I.kIn rd vV (by decide +kernel) ?_)
  show wpAny _ _ (callWith pos (Value.builtin "ValueError.__init__") [] (backTo pos (starEach (e :: es) X.env)) []) _ _ _
  refine PyProof.Rows.callWith_method1 (thn (ha.run pos pins _ σ H _ (I.tok _) h) fun us s1 hh => ?_) he hpl
  obtain ⟨vs, H1, I1, r1, a, C, ws, ev, hl, T, ea, q⟩ := hh
  subst ev
  cases r1 with
  | @cons _ u0 _ ur ra rw' =>
    obtain rfl : u0 = Value.ref a := ra
    have hlen : ur.length ≤ sizeLine := by
      have e1 := Paired.length rw'
      rw [sizeLine_eq]
      omega
    exact oinit_ok T I1 ea hlen fun s' J => ⟨.non, H1, J, rfl, q⟩
end
/-! ### isinstance of the exception that the suite holds, its dict at dd -/
structure XisC (K : PySem.W.Frag) (D : Addr) : Prop where
  cl : (PySem.W.clsIn K D).isSome = true
  hg : PySem.W.findIn K (.ref D) "__getattribute__" = some (some (.builtin "BaseException.__getattribute__"))
  hk : PySem.W.findIn K (.ref D) "__getattr__" = some none
  hs : PySem.W.subIn K (.ref D) (.type "BaseException") = some true
  ha : PySem.W.findIn K (.ref D) "__class__" = some (some (.builtin "object.__class__"))
  hn : PySem.W.specialIn K (.builtin "object.__class__") "__get__" = some (some (.builtin "getset_descriptor.__get__"))
  ht : PySem.W.takesIn K (.builtin "object.__class__") = some true
  hm : PySem.W.mroIn K D (.type "object") = some true
section
variable {X : Cx} {a D dd : Addr} {oe : Obj} {pn pins : List (Addr × Obj)} {σ : L2.St} {H : Hp} {s : Shared} {fs : List (Str × V)}
theorem x_inst (hz : Zc (.ref D) (some dd) oe) (hf : ∃ vs, oe.data = .fields vs) (I : Inv (X.suite a ((a, oe) :: pn)) pins σ H s) (hd : H dd = some (.xd fs)) : ∃ od, PySem.W.InstAt s.heap a oe D (some od) := by
  obtain ⟨hget, _⟩ := I.pin (a, oe) (List.mem_append.mpr (.inl List.mem_cons_self))
  obtain ⟨vs, hv⟩ := hf
  have hx : ObjOk X.prog X.w H s.heap dd (.xd fs) := I.hok dd _ hd
  obtain ⟨mA, hns, hr⟩ := hx
  obtain ⟨od, ho, hl⟩ := lookIn_ns hns
  exact ⟨od, hget, hz.1, by unfold PySem.W.notCls; rw [hv] <;> rfl, by rw [hz.2]; exact ho⟩
def rIsX (K : PySem.W.Frag) (D a dd : Addr) : List V → Hp → VK → Prop := fun xs H Q => ∃ fs, H dd = some (.xd fs) ∧
  ((∃ (C : Addr) (b : Bool), xs = [.ref a, .ref C] ∧ PySem.W.kitOne K (.ref D) (.ref C) = some b ∧ Q (.bl b) H) ∨
    ∃ (tp : Addr) (cs : List Addr) (b : Bool), xs = [.ref a, .ref tp] ∧ H tp = some (.tup (cs.map V.ref)) ∧ PySem.W.kitAny K (.ref D) (cs.map Value.ref) = some b ∧ Q (.bl b) H)
theorem vals_refs : ∀ {cs : List Addr} {us : List Value}, Vals (cs.map V.ref) us → us = cs.map Value.ref
  | [], _, .nil => rfl
  | c :: cs, _, .cons r t => by
    cases r
    rw [vals_refs t] <;> rfl
theorem call_isX (C : XisC X.K D) (hz : Zc (.ref D) (some dd) oe) (hf : ∃ vs, oe.data = .fields vs) : CallR (X.suite a ((a, oe) :: pn)) (.builtin "isinstance") (rIsX X.K D a dd) := by
  intro pins s σ H xs us Q I r h
  obtain ⟨fs, hd, h⟩ := h
  obtain ⟨od, J⟩ := x_inst hz hf I hd
  have Z := PySem.W.kitx_exc (x := a) (ox := oe) (od := some od) C.cl C.hg C.hk C.hs C.ha C.hn C.ht C.hm
  rcases h with ⟨C', b, rfl, e, q⟩ | ⟨tp, cs, b, rfl, hT, e, q⟩
  · obtain ⟨u1, u2, rfl, r1, r2⟩ := vals2 r
    cases r1
    cases r2
    exact PySem.W.kia_one Z I.kIn J e (fun z => nomatch z) fun tk => ⟨.bl b, H, I.kept (t' := tk) fun _ _ z => z, rfl, q⟩
  · obtain ⟨u1, u2, rfl, r1, r2⟩ := vals2 r
    cases r1
    cases r2
    obtain ⟨_, its, rv, o, h1, h2, n, h3⟩ := (show ObjOk X.prog X.w H s.heap tp (.tup (cs.map V.ref)) from I.hok tp _ hT)
    have e3 := vals_refs rv
    subst e3
    obtain ⟨oc, od2, dt, sl⟩ := o
    simp only at h2 h3
    subst h2 h3
    exact PySem.W.kia_tup Z I.kIn J h1 e (fun z => nomatch z) fun tk => ⟨.bl b, H, I.kept (t' := tk) fun _ _ z => z, rfl, q⟩
end
end K17

-- text K17Base
set_option maxHeartbeats 4000000
/-! ## own base: the promise of a def by its name, the module's facts -/
namespace K17
open PySem PySem.Spec PyProof.Rows L2
/-- the def that stands under the name x keeps sp -/
def Ok (P : Program) (w : World) (K : PySem.W.Frag) (mg : Str → Option Value) (base : Heap) (CX : CXT) (k : Nat) (x : Str) (ps : List Str) (sp : Sp) : Prop :=
  ∃ (f : Addr) (fd : FuncData), mg x = some (.ref f) ∧ PySem.W.keepIn K (.ref f) = true ∧ Binds K fd ps [] ∧ FnOk P w K mg base CX k f fd ps sp
abbrev Ok0 (P : Program) (w : World) (K : PySem.W.Frag) (mg : Str → Option Value) (base : Heap) (k : Nat) (x : Str) (ps : List Str) (sp : Sp) : Prop := Ok P w K mg base CX0 k x ps sp
section
variable {X : Cx} {x : Str} {p pos : Pos}
theorem pe_gi {i : Int} (h : ∃ t, X.mg x = some (.int i t)) (hg : Gl X x := by rfl) (hd : (x == ("__debug__" : Str)) = false := by decide) : PE X (.Name x pos) (tC (.int i)) := by
  obtain ⟨t, e⟩ := h
  exact pe_glob hg e ⟨t, rfl⟩ hd
theorem pe_gs {z : Str} (h : ∃ t, X.mg x = some (.str z t)) (hg : Gl X x := by rfl) (hd : (x == ("__debug__" : Str)) = false := by decide) : PE X (.Name x pos) (tC (.str z)) := by
  obtain ⟨t, e⟩ := h
  exact pe_glob hg e ⟨t, rfl⟩ hd
theorem pe_gr {a : Addr} (h : X.mg x = some (.ref a)) (hg : Gl X x := by rfl) (hd : (x == ("__debug__" : Str)) = false := by decide) : PE X (.Name x pos) (tC (.ref a)) := pe_glob hg h rfl hd
theorem pe_c {CX : CXT} {k : Nat} {ps : List Str} {sp : Sp} {E : XK} {e : Expr} {es : List Expr} {t : TA} (F : Ok X.prog X.w X.K X.mg X.base CX k x ps sp) (hr : Room k X.A) (hx : Passes CX X E) (ha : PA X (e :: es) t)
    (hg : Gl X x := by rfl) (hdb : (x == ("__debug__" : Str)) = false := by decide) (he : starEach (e :: es) X.env = (false, eval e X.env) :: starEach es X.env := by rfl) (hpl : (backTo pos (starEach es X.env)).any (·.1) = false := by rfl) :
    PE X (.Call (.Name x p) (e :: es) [] pos) (tCall sp [] E t) := by
  obtain ⟨f, fd, hm, hk, hb, F⟩ := F
  exact pe_call F hr hg hm hk hb .nil hx ha hdb he hpl
end
/-! ### the written dict of tuples of texts -/
def KDx (K : PySem.W.Frag) (w : World) (d : Addr) : Prop := ∃ es n, KDict K w d es n
section
variable {X : Cx}
theorem op_in_kx : OpR X (compareOp .In) (fun x y H Q => ∃ (z : Str) (d : Addr) (r : Option Value), x = .str z ∧ y = .ref d ∧ KDx X.K X.w d ∧ PySem.W.nsIn X.K d z = some r ∧ Q (.bl r.isSome) H) := by
  intro pins s σ H x y v u Q I rx ry h
  obtain ⟨z, d, r, e1, e2, ⟨es, n, D⟩, e3, q⟩ := h
  exact op_in_kd D pins s σ H x y v u Q I rx ry ⟨z, r, e1, e2, e3, q⟩
theorem op_notIn_kx : OpR X (compareOp .NotIn) (fun x y H Q => ∃ (z : Str) (d : Addr) (r : Option Value), x = .str z ∧ y = .ref d ∧ KDx X.K X.w d ∧ PySem.W.nsIn X.K d z = some r ∧ Q (.bl (!r.isSome)) H) := by
  intro pins s σ H x y v u Q I rx ry h
  obtain ⟨z, d, r, e1, e2, ⟨es, n, D⟩, e3, q⟩ := h
  exact op_notIn_kd D pins s σ H x y v u Q I rx ry ⟨z, r, e1, e2, e3, q⟩
def tKGet2 (K : PySem.W.Frag) (w : World) (td ty tx : TE) : TE := fun σ H Q => td σ H fun x H1 => ∃ a, x = .ref a ∧ KDx K w a ∧ ty σ H1 fun y H2 => tx σ H2 fun z H3 => ∃ k, y = .str k ∧
  ((∃ u v, PySem.W.nsIn K a k = some (some u) ∧ RelV v u ∧ Q v H3) ∨ (PySem.W.nsIn K a k = some none ∧ Q z H3))
theorem pe_kget2 {o e f : Expr} {apos cpos : Pos} {td ty tx : TE} (ho : PE X o td) (he : PE X e ty) (hf : PE X f tx) (m : M2 X o "get" apos e f cpos) : PE X (.Call (.Attribute o "get" apos) [e, f] [] cpos) (tKGet2 X.K X.w td ty tx) := by
  refine ⟨fun pins s σ H Q I h => ?_⟩
  refine wpAny_Call_method m.base m.few m.line PySem.F.plainAttrs_dict PySem.F.slot_dict_get PySem.F.type_dict_get (thn (ho.run pins s σ H _ I h) fun ov t1 ⟨xv, G1, J1, rv, a, ex, ⟨es, n, D⟩, q1⟩ => ?_)
  subst ex
  obtain rfl : ov = Value.ref a := rv
  have hm0 := PySem.W.mapOf_K (prog := X.prog) (w := X.w) J1.kIn D.at_ D.lit
  refine ⟨hm0.typeIs, (fun b q => by cases q; exact ⟨_, J1.kIn _ _ D.at_, rfl⟩), ?_⟩
  rw [m.trees]
  refine Calls.callWith_builtin rfl (Calls.evalArgs_plain (Calls.spliced_cons (thn (he.run pins t1 σ G1 _ J1 q1) fun kv t2 ⟨y, G2, J2, ry, q2⟩ =>
    Calls.spliced_cons (thn (hf.run pins t2 σ G2 _ J2 q2) fun dv t3 ⟨z, G3, J3, rz, k, ek, q3⟩ => Calls.spliced_nil ?_))))
  subst ek
  obtain ⟨tk, rfl⟩ := (show ∃ t, kv = Value.str k t from ry)
  have hm := PySem.W.mapOf_K (prog := X.prog) (w := X.w) J3.kIn D.at_ D.lit
  have go : ∀ (r : Option Value) (v : V), PySem.W.nsIn X.K a k = some r → RelV v (r.getD dv) → Q v G3 → wpAny (model X.prog X.w) X.A (call (.builtin "dict.get") [.ref a, .str k tk, dv]) (EP X pins σ Q) X.xe t3 := fun r v e rr qq =>
    call_meetsIn PySem.F.slot_dict_get hm.typeIs PySem.F.entry_dict_get (PySem.F.args_dict_get_3 _ _ _) (meets_dict_get_default (strKind X.prog X.w) a (strKind_is X.prog X.w k tk) D.low dv)
      ⟨_, hm, ⟨v, G3, J3.tok _, by rw [PySem.W.find_K D.at_ e]; exact rr, qq⟩⟩
  rcases q3 with ⟨u, v, e, rr, qq⟩ | ⟨e, qq⟩
  · exact go (some u) v e rr qq
  · exact go none z e rz qq
end
/-! ### the module's facts -/
abbrev FORMS : List (Str × List Str) := [("set", ["variable", "integer"]), ("add", ["variable", "variable"]), ("skip", ["variable", "amount"]), ("export", ["name", "variable"]), ("read", ["variable", "module", "name"]), ("need", ["module"]), ("try", ["module", "variable"]), ("fail", [])]
def formK (z : Str) : Option (List Str) := FORMS.lookup z
structure Ad where
  v : Addr
  fm : Addr
  lb : Addr
  it : Addr
  le : Addr
  ic : Addr
  il : Addr
  ip : Addr
structure Tx (w : World) (K : PySem.W.Frag) (mg : Str → Option Value) (d : Ad) : Prop where
  c_MOST_LETTERS : ∃ t, mg "MOST_LETTERS" = some (.int 8 t)
  c_MOST_STEPS : ∃ t, mg "MOST_STEPS" = some (.int 30 t)
  c_MOST_DIGITS : ∃ t, mg "MOST_DIGITS" = some (.int 4000 t)
  c_MOST_MODULES : ∃ t, mg "MOST_MODULES" = some (.int 40 t)
  c_LETTERS : ∃ t, mg "LETTERS" = some (.str "abcdefghijklmnopqrstuvwxyz" t)
  c_DIGITS : ∃ t, mg "DIGITS" = some (.str "0123456789" t)
  c_HEAD : ∃ t, mg "HEAD" = some (.str "module " t)
  c_INDENT : ∃ t, mg "INDENT" = some (.str "  " t)
  c_VARIABLES : mg "VARIABLES" = some (.ref d.v)
  var : ∀ H, SqT K H d.v [.str "a", .str "b", .str "c", .str "d"]
  c_FORMS : mg "FORMS" = some (.ref d.fm)
  fdic : KDx K w d.fm
  flow : ∀ z ks, formK z = some ks → ∃ p, PySem.W.nsIn K d.fm z = some (some (.ref p)) ∧ ∀ H, SqT K H p (ks.map V.str)
  fnone : ∀ z, formK z = none → PySem.W.nsIn K d.fm z = some none
  b_isinstance : mg "isinstance" = none
  b_len : mg "len" = none
  b_all : mg "all" = none
  b_str : mg "str" = none
  b_int : mg "int" = none
  b_tuple : mg "tuple" = none
  b_zip : mg "zip" = none
  b_enumerate : mg "enumerate" = none
  b_list : mg "list" = none
  b_dict : mg "dict" = none
  b_bool : mg "bool" = none
  b_sorted : mg "sorted" = none
  b_abs : mg "abs" = none
  b_max : mg "max" = none
  b_min : mg "min" = none
  b_divmod : mg "divmod" = none
  b_range : mg "range" = none
  b_repr : mg "repr" = none
section
variable {w : World} {K : PySem.W.Frag} {mg : Str → Option Value} {d : Ad}
theorem Tx.kdct (T : Tx w K mg d) {z : Str} {ks : List Str} (h : formK z = some ks) : ∃ p, KDct K w d.fm z (.ref p) ∧ ∀ H, SqT K H p (ks.map V.str) := by
  obtain ⟨es, n, D⟩ := T.fdic
  obtain ⟨p, e, q⟩ := T.flow z ks h
  exact ⟨p, ⟨es, n, .ref p, D.at_, D.lit, e, rfl⟩, q⟩
end
end K17

-- text K17Evl
set_option maxHeartbeats 4000000
/-! ## own base 2: loops and comprehensions over any walk -/
namespace K17
open PySem PySem.Spec PyProof.Rows L2 Evl
/-- a walk of n turns; put: the slots behind the target -/
structure Goes (J : It) (g : TG) (n : Nat) (S : Hp → Prop) (put : Nat → L2.St → L2.St) : Prop where
  stop : ∀ H, S H → J.stop n H
  go : ∀ i H, i < n → S H → J.go i H
  tgt : ∀ i (σ : L2.St) H x H' (R : L2.St → Hp → Prop), i < n → S H → J.yld i H x H' → (∀ H2, Ex H H2 → R (put i σ) H2) → g x σ H' R
  len : n < sizeLine
section
variable {K : PySem.W.Frag} {a b : Addr} {xs ys : List V} {j l : Nat}
theorem goes_list (hz : xs.length < sizeLine) : Goes (Itl K a) (gName j) xs.length (fun H => SqL K H a xs) (fun i σ => σ.set j xs[i]?) where
  stop := fun H h => ⟨xs, h, Nat.le_refl _⟩
  go := fun i H hi h => ⟨xs, xs[i], h, by simp [hi]⟩
  tgt := fun i σ H x H' R hi h y k => by
    obtain ⟨e, y⟩ := y
    subst e
    have q := y xs h
    have k1 := k H' (Ex.refl _)
    rw [q] at k1
    exact k1
  len := hz
theorem goes_tup (hz : xs.length < sizeLine) : Goes (Itt K a) (gName j) xs.length (fun H => SqT K H a xs) (fun i σ => σ.set j xs[i]?) where
  stop := fun H h => ⟨xs, h, Nat.le_refl _⟩
  go := fun i H hi h => ⟨xs, xs[i], h, by simp [hi]⟩
  tgt := fun i σ H x H' R hi h y k => by
    obtain ⟨e, y⟩ := y
    subst e
    have q := y xs h
    have k1 := k H' (Ex.refl _)
    rw [q] at k1
    exact k1
  len := hz
abbrev sgV (c : Nat) : V := .str ⟨#[c]⟩
theorem goes_str {x : Str} (hz : x.length < sizeLine) : Goes (Its x) (gName j) (TL.tl x).length (fun _ => True) (fun i σ => σ.set j (((TL.tl x).map sgV)[i]?)) where
  stop := fun H _ => by show x.cps.size ≤ (TL.tl x).length; simp
  go := fun i H hi _ => by have h2 : i < x.cps.size := by simpa using hi
                           exact h2
  tgt := fun i σ H v H' R hi _ y k => by
    obtain ⟨e, c, e1, e2⟩ := y
    subst e e2
    have k1 := k H' (Ex.refl _)
    have q : ((TL.tl x).map sgV)[i]? = some (sgV c) := by
      rw [List.getElem?_map]
      show ((x.cps.toList)[i]?).map sgV = _
      rw [Array.getElem?_toList, e1]
      rfl
    rw [q] at k1
    exact k1
  len := by rw [← TL.len_tl]; exact hz
theorem goes_rng {lo : Int} {n : Nat} (hz : n < sizeLine) : Goes (Itr lo n) (gName j) n (fun _ => True) (fun i σ => σ.set j (some (.int (lo + i)))) where
  stop := fun H _ => Nat.le_refl n
  go := fun i H hi _ => hi
  tgt := fun i σ H v H' R hi _ y k => by
    obtain ⟨e, e1⟩ := y
    subst e e1
    exact k H' (Ex.refl _)
  len := hz
theorem goes_zipT (hz : xs.length < sizeLine) : Goes (RZ.ItzT K a b) (gTup K 2 (gCons (gName j) (gCons (gName l) gNil))) xs.length (fun H => SqT K H a xs ∧ SqT K H b ys ∧ xs.length = ys.length) (fun i σ => (σ.set j xs[i]?).set l ys[i]?) where
  stop := fun H h => ⟨xs, ys, h.1, h.2.1, .inl (Nat.le_refl _)⟩
  go := fun i H hi h => ⟨xs, ys, xs[i], ys[i]'(by rw [← h.2.2]; exact hi), h.1, h.2.1, by simp [hi], List.getElem?_eq_getElem _⟩
  tgt := fun i σ H v H' R hi h y k => by
    obtain ⟨T, x, z, e, hT, e1, h1, h2⟩ := y
    subst e e1
    have q1 := h1 xs h.1
    have q2 := h2 ys h.2.1
    have k1 := k _ (Ex.new (o := .tup [x, z]) hT)
    rw [q1, q2] at k1
    exact ⟨T, [x, z], rfl, SqT.of upd_same, rfl, x, [z], rfl, z, [], rfl, rfl, k1⟩
  len := hz
theorem goes_zipM (hz : xs.length < sizeLine) : Goes (ItzM K a b) (gTup K 2 (gCons (gName j) (gCons (gName l) gNil))) xs.length (fun H => SqT K H a xs ∧ SqL K H b ys ∧ xs.length = ys.length) (fun i σ => (σ.set j xs[i]?).set l ys[i]?) where
  stop := fun H h => ⟨xs, ys, h.1, h.2.1, rfl, h.2.2.symm⟩
  go := fun i H hi h => ⟨xs, ys, xs[i], ys[i]'(by rw [← h.2.2]; exact hi), h.1, h.2.1, by simp [hi], List.getElem?_eq_getElem _⟩
  tgt := fun i σ H v H' R hi h y k => by
    obtain ⟨T, x, z, e, hT, e1, h1, h2⟩ := y
    subst e e1
    have q1 := h1 xs h.1
    have q2 := h2 ys h.2.1
    have k1 := k _ (Ex.new (o := .tup [x, z]) hT)
    rw [q1, q2] at k1
    exact ⟨T, [x, z], rfl, SqT.of upd_same, rfl, x, [z], rfl, z, [], rfl, rfl, k1⟩
  len := hz
theorem goes_enum (hz : xs.length < sizeLine) : Goes (Ite K a) (gTup K 2 (gCons (gName j) (gCons (gName l) gNil))) xs.length (fun H => SqL K H a xs) (fun i σ => (σ.set j (some (.int i))).set l xs[i]?) where
  stop := fun H h => ⟨xs, h, Nat.le_refl _⟩
  go := fun i H hi h => ⟨xs, xs[i], h, by simp [hi]⟩
  tgt := fun i σ H v H' R hi h y k => by
    obtain ⟨T, x, e, hT, e1, h1⟩ := y
    subst e e1
    have q1 := h1 xs h
    have k1 := k _ (Ex.new (o := .tup [.int (i : Nat), x]) hT)
    rw [q1] at k1
    exact ⟨T, [.int (i : Nat), x], rfl, SqT.of upd_same, rfl, _, [x], rfl, x, [], rfl, rfl, k1⟩
  len := hz
end
/-- the inner part of a comprehension's reading, of a for's -/
def LcW (J : It) (g : TG) (tt : TT) (te : TE) (vs : List Nat) (σ : L2.St) (H1 : Hp) (Q : VK) : Prop := ∀ D, H1 D = none → ∃ W : Nat → Nat → Hp → Prop, (∃ m, W 0 m (upd H1 D (.lst []))) ∧ ∀ i m H, W i m H →
  (J.stop i H ∧ Q (.ref D) H) ∨ (J.go i H ∧ ∃ Nx : Hp → Prop, (∀ H', Nx H' → ∃ m', m' < m ∧ W (i + 1) m' H') ∧ ∀ x H', J.yld i H x H' → g x (wipe σ vs) H' fun σ2 H2 => wipe σ2 vs = wipe σ vs ∧ tt σ2 H2 fun b H3 =>
    if b = true then te σ2 H3 fun y H4 => ∃ acc, H4 D = some (.lst acc) ∧ acc.length < sizeLine ∧ Nx (upd H4 D (.lst (acc ++ [y]))) else Nx H3)
theorem tLc_eq {wi : TI} {g : TG} {tt : TT} {te : TE} {vs : List Nat} {σ : L2.St} {H : Hp} {Q : VK} : tLc wi g tt te vs σ H Q = wi σ H (fun J H1 => LcW J g tt te vs σ H1 Q) := rfl
def ForW (J : It) (g : TG) (tb : TS) (D : Ends) (σ : L2.St) (H1 : Hp) : Prop := ∃ W : Nat → Nat → L2.St → Hp → Prop, (∃ m, W 0 m σ H1) ∧ ∀ i m σ H, W i m σ H →
  (J.stop i H ∧ D.nx σ H) ∨ (J.go i H ∧ ∃ N : L2.St → Hp → Prop, (∀ σ' H', N σ' H' → ∃ m', m' < m ∧ W (i + 1) m' σ' H') ∧ ∀ x H', J.yld i H x H' → g x σ H' fun σ2 H2 => tb { D with nx := N, ct := N, bk := D.nx } σ2 H2)
theorem tFor_eq {wi : TI} {g : TG} {tb : TS} {D : Ends} {σ : L2.St} {H : Hp} : tFor wi g tb D σ H = wi σ H (fun J H1 => ForW J g tb D σ H1) := rfl
section
variable {J : It} {g : TG} {n : Nat} {S : Hp → Prop} {put : Nat → L2.St → L2.St} {tt : TT} {te : TE} {vs : List Nat} {σ : L2.St} {H : Hp} {Q : VK} {tb : TS} {D : Ends}
/-- behind turn i of a comprehension whose new list stands at D -/
def Nxt (Pv : Addr → Nat → List V → Hp → Prop) (D : Addr) (i : Nat) (H2 : Hp) : Prop := ∃ acc, H2 D = some (.lst acc) ∧ acc.length ≤ i ∧ Pv D i acc H2
theorem lcP (G : Goes J g n S put) (hw : ∀ i, i < n → wipe (put i (wipe σ vs)) vs = wipe σ vs) (Pv : Addr → Nat → List V → Hp → Prop) (h0 : ∀ D, H D = none → Pv D 0 [] (upd H D (.lst [])))
    (hS : ∀ D i acc H', Pv D i acc H' → S H') (ext : ∀ D i acc H1 H2, Ex H1 H2 → Pv D i acc H1 → Pv D i acc H2)
    (step : ∀ D i acc H', i < n → Pv D i acc H' → H' D = some (.lst acc) → acc.length ≤ i → acc.length < sizeLine → tt (put i (wipe σ vs)) H' fun b H3 => if b = true then te (put i (wipe σ vs)) H3 fun y H4 => ∃ acc2, H4 D = some (.lst acc2) ∧ acc2.length < sizeLine ∧ Nxt Pv D (i + 1) (upd H4 D (.lst (acc2 ++ [y]))) else Nxt Pv D (i + 1) H3)
    (k : ∀ D acc H2, H2 D = some (.lst acc) → acc.length ≤ n → Pv D n acc H2 → Q (.ref D) H2) : LcW J g tt te vs σ H Q := by
  intro Dl hD
  have h1000 := G.len
  refine ⟨fun i m H' => m = n - i ∧ i ≤ n ∧ Nxt Pv Dl i H', ⟨n, by simp, Nat.zero_le _, [], upd_same, Nat.zero_le _, h0 Dl hD⟩, ?_⟩
  rintro i m H' ⟨rfl, hi, acc, hq, hl, hp⟩
  have hs := hS _ _ _ _ hp
  by_cases hlt : i < n
  · refine .inr ⟨G.go i H' hlt hs, Nxt Pv Dl (i + 1), fun H2 h2 => ⟨n - (i + 1), by omega, rfl, hlt, h2⟩, fun x H2 y => ?_⟩
    refine G.tgt i _ H' x H2 _ hlt hs y fun H3 e3 => ⟨hw i hlt, ?_⟩
    exact step Dl i acc H3 hlt (ext _ _ _ _ _ e3 hp) (e3 _ _ hq) hl (by omega)
  · have e : i = n := by omega
    subst e
    exact .inl ⟨G.stop H' hs, k Dl acc H' hq hl hp⟩
theorem given_lt (n : Nat) (f : Nat → Bool) (v : Nat → V) : (given n f v).length ≤ n := given_len n f v
/-- the elements are values that hang on the turn alone -/
theorem lcE (G : Goes J g n S put) (hw : ∀ i, i < n → wipe (put i (wipe σ vs)) vs = wipe σ vs) (hS : ∀ H', Ex H H' → S H') (f : Nat → Bool) (v : Nat → V)
    (ht : ∀ i H1, i < n → Ex H H1 → EvT tt (put i (wipe σ vs)) H1 (f i)) (he : ∀ i H1, i < n → Ex H H1 → f i = true → Ev te (put i (wipe σ vs)) H1 (v i))
    (k : ∀ D H2, H D = none → Ex H H2 → H2 D = some (.lst (given n f v)) → Q (.ref D) H2) : LcW J g tt te vs σ H Q := by
  intro Dl hD
  have h1000 := G.len
  refine ⟨fun i m H' => m = n - i ∧ i ≤ n ∧ Ex H H' ∧ H' Dl = some (.lst (given i f v)), ⟨n, by simp, Nat.zero_le _, Ex.new hD, upd_same⟩, ?_⟩
  rintro i m H' ⟨rfl, hi, e, hq⟩
  have hs := hS H' e
  by_cases hlt : i < n
  · refine .inr ⟨G.go i H' hlt hs, fun H2 => Ex H H2 ∧ H2 Dl = some (.lst (given (i + 1) f v)), fun H2 h2 => ⟨n - (i + 1), by omega, rfl, hlt, h2⟩, fun x H2 y => ?_⟩
    refine G.tgt i _ H' x H2 _ hlt hs y fun H3 e3 => ⟨hw i hlt, ?_⟩
    refine ht i H3 hlt (e.trans e3) H3 (Ex.refl _) _ fun H4 e4 => ?_
    have hq4 := e4 _ _ (e3 _ _ hq)
    have e04 := (e.trans e3).trans e4
    cases hf : f i with
    | true =>
      refine he i H3 hlt (e.trans e3) hf H4 e4 _ fun H5 e5 => ⟨given i f v, e5 _ _ hq4, ?_, Ex.mut (e04.trans e5) hD, ?_⟩
      · have := given_len i f v
        omega
      · rw [given_yes hf]
        exact upd_same
    | false =>
      refine ⟨e04, ?_⟩
      rw [given_no hf]
      exact hq4
  · have e1 : i = n := by omega
    subst e1
    exact .inl ⟨G.stop H' hs, k Dl H' hD e hq⟩
theorem forP (G : Goes J g n S put) (Pv : Nat → L2.St → Hp → Prop) (h0 : Pv 0 σ H) (hS : ∀ i σ' H', Pv i σ' H' → S H')
    (step : ∀ i σ' H' H2, i < n → Pv i σ' H' → Ex H' H2 → tb { D with nx := Pv (i + 1), ct := Pv (i + 1), bk := D.nx } (put i σ') H2) (hd : ∀ σ' H', Pv n σ' H' → D.nx σ' H') : ForW J g tb D σ H := by
  refine ⟨fun i m σ' H' => m = n - i ∧ i ≤ n ∧ Pv i σ' H', ⟨n, by simp, Nat.zero_le _, h0⟩, ?_⟩
  rintro i m σ' H' ⟨rfl, hi, p⟩
  have hs := hS _ _ _ p
  by_cases hlt : i < n
  · refine .inr ⟨G.go i H' hlt hs, Pv (i + 1), fun σ2 H2 h2 => ⟨n - (i + 1), by omega, rfl, hlt, h2⟩, fun x H2 y => ?_⟩
    exact G.tgt i _ H' x H2 _ hlt hs y fun H3 e3 => step i σ' H' H3 hlt p e3
  · have e1 : i = n := by omega
    subst e1
    exact .inl ⟨G.stop H' hs, hd _ _ p⟩
end
theorem given_map {xs : List V} {d : V} (f : V → Bool) (v : V → V) : given xs.length (fun i => f (xs.getD i d)) (fun i => v (xs.getD i d)) = (xs.filter f).map v := by
  unfold given
  have e : xs = (List.range xs.length).map fun i => xs.getD i d := by
    apply List.ext_getElem
    · simp
    · intro i h1 h2
      simp [List.getD_eq_getElem?_getD, h1]
  conv => rhs; rw [e, List.filter_map, List.map_map]
  rfl
/-! ### isinstance with a built-in type -/
def isT (t c : String) : Bool := t == c || (t == "bool" && c == "int")
def isTab : List (String × String) := ["NoneType", "bool", "int", "str", "list", "tuple", "dict"].flatMap fun t => ["str", "int", "bool", "tuple", "list", "dict"].map fun c => (t, c)
theorem isT_kit {K : PySem.W.Frag} : ∀ q ∈ isTab, PySem.W.kitOne K (.type q.1) (.type q.2) = some (isT q.1 q.2) := by
  intro q hq
  simp only [isTab, List.flatMap_cons, List.flatMap_nil, List.map_cons, List.map_nil, List.cons_append, List.nil_append, List.mem_cons, List.not_mem_nil, or_false] at hq
  rcases hq with h | h | h | h | h | h | h | h | h | h | h | h | h | h | h | h | h | h | h | h | h | h | h | h | h | h | h | h | h | h | h | h | h | h | h | h | h | h | h | h | h | h <;> subst h <;> rfl
def isTys : List String := ["str", "int", "bool", "tuple", "list", "dict"]
/-- isinstance(x, c), c a built-in type -/
def rIsV (K : PySem.W.Frag) : List V → Hp → VK → Prop
  | [.str _, .ty c], H, Q => c ∈ isTys ∧ Q (.bl (isT "str" c)) H
  | [.int _, .ty c], H, Q => c ∈ isTys ∧ Q (.bl (isT "int" c)) H
  | [.bl _, .ty c], H, Q => c ∈ isTys ∧ Q (.bl (isT "bool" c)) H
  | [.non, .ty c], H, Q => c ∈ isTys ∧ Q (.bl (isT "NoneType" c)) H
  | [.ref a, .ty c], H, Q => ∃ t, TyX K H (.ref a) (.type t) ∧ (t, c) ∈ isTab ∧ Q (.bl (isT t c)) H
  | _, _, _ => False
theorem isTab_of {t c : String} (ht : t ∈ ["NoneType", "bool", "int", "str", "list", "tuple", "dict"]) (hc : c ∈ isTys) : (t, c) ∈ isTab :=
  List.mem_flatMap.mpr ⟨t, ht, List.mem_map.mpr ⟨c, hc, rfl⟩⟩
theorem call_isV {X : Cx} : CallR X (.builtin "isinstance") (rIsV X.K) := by
  intro pins s σ H xs us Q I r h
  have go : ∀ (x : V) (c t : String), xs = [x, .ty c] → TyX X.K H x (.type t) → (t, c) ∈ isTab → Q (.bl (isT t c)) H → wpAny (model X.prog X.w) X.A (call (.builtin "isinstance") us) (EP X pins σ Q) X.xe s :=
    fun x c t e ty m q => call_isi pins s σ H xs us Q I r ⟨x, .ty c, .type t, .type c, _, e, .ty c, ty, isT_kit _ m, q⟩
  unfold rIsV at h
  split at h
  · exact go _ _ "str" rfl (.base (.str _)) (isTab_of (by decide) h.1) h.2
  · exact go _ _ "int" rfl (.base (.int _)) (isTab_of (by decide) h.1) h.2
  · exact go _ _ "bool" rfl (.base (.bl _)) (isTab_of (by decide) h.1) h.2
  · exact go _ _ "NoneType" rfl (.base .non) (isTab_of (by decide) h.1) h.2
  · obtain ⟨t, ty, m, q⟩ := h
    exact go _ _ t rfl ty m q
  · exact h.elim
section
variable {K : PySem.W.Frag} {H : Hp} {Q : VK} {z : Str} {i : Int} {k : Bool} {a : Addr} {xs : List V} {c : String}
theorem is_ss : rIsV K [.str z, .ty "str"] H Q = Q (.bl true) H := by simp [rIsV, isTys, isT]
theorem is_si : rIsV K [.str z, .ty "int"] H Q = Q (.bl false) H := by simp [rIsV, isTys, isT]
theorem is_ii : rIsV K [.int i, .ty "int"] H Q = Q (.bl true) H := by simp [rIsV, isTys, isT]
theorem is_ib : rIsV K [.int i, .ty "bool"] H Q = Q (.bl false) H := by simp [rIsV, isTys, isT]
theorem is_is : rIsV K [.int i, .ty "str"] H Q = Q (.bl false) H := by simp [rIsV, isTys, isT]
theorem is_bs : rIsV K [.bl k, .ty "str"] H Q = Q (.bl false) H := by simp [rIsV, isTys, isT]
theorem is_ns : rIsV K [.non, .ty "str"] H Q = Q (.bl false) H := by simp [rIsV, isTys, isT]
theorem is_ni : rIsV K [.non, .ty "int"] H Q = Q (.bl false) H := by simp [rIsV, isTys, isT]
theorem is_nt : rIsV K [.non, .ty "tuple"] H Q = Q (.bl false) H := by simp [rIsV, isTys, isT]
theorem is_tt (h : H a = some (.tup xs)) (q : Q (.bl true) H) : rIsV K [.ref a, .ty "tuple"] H Q := ⟨"tuple", .base (.tup h), by decide, q⟩
theorem is_ll (h : H a = some (.lst xs)) (q : Q (.bl true) H) : rIsV K [.ref a, .ty "list"] H Q := ⟨"list", .base (.lst h), by decide, q⟩
theorem is_ls (h : H a = some (.lst xs)) (q : Q (.bl false) H) : rIsV K [.ref a, .ty "str"] H Q := ⟨"list", .base (.lst h), by decide, q⟩
theorem is_ts (h : H a = some (.tup xs)) (q : Q (.bl false) H) : rIsV K [.ref a, .ty "str"] H Q := ⟨"tuple", .base (.tup h), by decide, q⟩
theorem is_ds {kvs : List (Key × V)} (h : H a = some (.dK kvs)) (q : Q (.bl false) H) : rIsV K [.ref a, .ty "str"] H Q := ⟨"dict", .base (.dK h), by decide, q⟩
theorem is_dd {kvs : List (Key × V)} (h : H a = some (.dK kvs)) (q : Q (.bl true) H) : rIsV K [.ref a, .ty "dict"] H Q := ⟨"dict", .base (.dK h), by decide, q⟩
end
/-! ### the forms for names -/
section
variable {J : It} {S : Hp → Prop} {tt : TT} {te : TE} {vs : List Nat} {σ : L2.St} {H : Hp} {Q : VK} {j l : Nat} {xs ys : List V} {g : TG}
theorem goes_strV {x : Str} (hz : x.length < sizeLine) : Goes (Its x) (gName j) ((TL.tl x).map sgV).length (fun _ => True) (fun i σ => σ.set j (((TL.tl x).map sgV)[i]?)) := by
  rw [List.length_map]
  exact goes_str hz
theorem mem_of_getD {α : Type} {xs : List α} {i : Nat} (h : i < xs.length) : ∃ x, xs[i]? = some x ∧ x ∈ xs := ⟨xs[i], by simp [h], List.getElem_mem h⟩
theorem lcS (G : Goes J (gName j) xs.length S (fun i σ => σ.set j xs[i]?)) (hS : ∀ H', Ex H H' → S H') (f : V → Bool) (v : V → V)
    (ht : ∀ x ∈ xs, EvT tt ((wipe σ vs).set j (some x)) H (f x)) (he : ∀ x ∈ xs, f x = true → Ev te ((wipe σ vs).set j (some x)) H (v x))
    (k : ∀ D H2, H D = none → Ex H H2 → H2 D = some (.lst ((xs.filter f).map v)) → Q (.ref D) H2) (hw : ∀ o, wipe ((wipe σ vs).set j o) vs = wipe σ vs) : LcW J (gName j) tt te vs σ H Q := by
  refine lcE G (fun i _ => hw _) hS (fun i => f (xs.getD i .non)) (fun i => v (xs.getD i .non)) (fun i H1 hi e => ?_) (fun i H1 hi e hf => ?_) (fun D H2 h1 h2 h3 => k D H2 h1 h2 (by rw [given_map] at h3; exact h3))
  · obtain ⟨x, e1, hm⟩ := mem_of_getD hi
    have e2 : xs.getD i .non = x := by rw [List.getD_eq_getElem?_getD, e1]; rfl
    rw [e2]
    show EvT tt ((wipe σ vs).set j xs[i]?) H1 (f x)
    rw [e1]
    exact (ht x hm).mono e
  · obtain ⟨x, e1, hm⟩ := mem_of_getD hi
    have e2 : xs.getD i .non = x := by rw [List.getD_eq_getElem?_getD, e1]; rfl
    rw [e2] at hf ⊢
    show Ev te ((wipe σ vs).set j xs[i]?) H1 (v x)
    rw [e1]
    exact (he x hm hf).mono e
theorem et_yes : EvT tYes σ H true := fun H1 _ _ q => q H1 (Ex.refl H1)
/-- without a test -/
theorem lcA (G : Goes J (gName j) xs.length S (fun i σ => σ.set j xs[i]?)) (hS : ∀ H', Ex H H' → S H') (v : V → V) (he : ∀ x ∈ xs, Ev te ((wipe σ vs).set j (some x)) H (v x))
    (k : ∀ D H2, H D = none → Ex H H2 → H2 D = some (.lst (xs.map v)) → Q (.ref D) H2) (hw : ∀ o, wipe ((wipe σ vs).set j o) vs = wipe σ vs) : LcW J (gName j) tYes te vs σ H Q :=
  lcS G hS (fun _ => true) v (fun x _ => et_yes) (fun x hx _ => he x hx) (fun D H2 h1 h2 h3 => k D H2 h1 h2 (by rw [List.filter_eq_self.mpr (fun _ _ => rfl)] at h3; exact h3)) hw
/-- two names over pairs -/
theorem lcZ (G : Goes J g xs.length S (fun i σ => (σ.set j xs[i]?).set l ys[i]?)) (hS : ∀ H', Ex H H' → S H') (hl : xs.length = ys.length) (f : V → V → Bool) (v : V → V → V)
    (ht : ∀ x y, (x, y) ∈ xs.zip ys → EvT tt (((wipe σ vs).set j (some x)).set l (some y)) H (f x y)) (he : ∀ x y, (x, y) ∈ xs.zip ys → f x y = true → Ev te (((wipe σ vs).set j (some x)).set l (some y)) H (v x y))
    (k : ∀ D H2, H D = none → Ex H H2 → H2 D = some (.lst (((xs.zip ys).filter fun q => f q.1 q.2).map fun q => v q.1 q.2)) → Q (.ref D) H2) (hw : ∀ o p, wipe (((wipe σ vs).set j o).set l p) vs = wipe σ vs) : LcW J g tt te vs σ H Q := by
  have hz : (xs.zip ys).length = xs.length := by rw [List.length_zip]; omega
  have key : ∀ i, i < xs.length → ∃ x y, xs[i]? = some x ∧ ys[i]? = some y ∧ (x, y) ∈ xs.zip ys ∧ (xs.zip ys).getD i (.non, .non) = (x, y) := by
    intro i hi
    have h2 : i < ys.length := by omega
    have h3 : (xs.zip ys)[i]? = some (xs[i], ys[i]) := by
      rw [List.getElem?_eq_getElem (by omega), List.getElem_zip]
    refine ⟨xs[i], ys[i], by simp [hi], by simp [h2], List.mem_of_getElem? h3, by rw [List.getD_eq_getElem?_getD, h3]; rfl⟩
  have gz : given xs.length (fun i => f ((xs.zip ys).getD i (.non, .non)).1 ((xs.zip ys).getD i (.non, .non)).2) (fun i => v ((xs.zip ys).getD i (.non, .non)).1 ((xs.zip ys).getD i (.non, .non)).2) = ((xs.zip ys).filter fun q => f q.1 q.2).map fun q => v q.1 q.2 := by
    rw [← hz]
    unfold given
    have e : xs.zip ys = (List.range (xs.zip ys).length).map fun i => (xs.zip ys).getD i (.non, .non) := by
      apply List.ext_getElem
      · simp
      · intro i h1 h2
        rw [List.getElem_map, List.getElem_range, List.getD_eq_getElem?_getD, List.getElem?_eq_getElem h1]
        rfl
    conv => rhs; rw [e, List.filter_map, List.map_map]
    rfl
  refine lcE G (fun i _ => hw _ _) hS (fun i => f ((xs.zip ys).getD i (.non, .non)).1 ((xs.zip ys).getD i (.non, .non)).2) (fun i => v ((xs.zip ys).getD i (.non, .non)).1 ((xs.zip ys).getD i (.non, .non)).2) (fun i H1 hi e => ?_) (fun i H1 hi e hf => ?_) (fun D H2 h1 h2 h3 => k D H2 h1 h2 (by rw [gz] at h3; exact h3))
  · obtain ⟨x, y, e1, e2, hm, e3⟩ := key i hi
    rw [e3]
    show EvT tt (((wipe σ vs).set j xs[i]?).set l ys[i]?) H1 (f x y)
    rw [e1, e2]
    exact (ht x y hm).mono e
  · obtain ⟨x, y, e1, e2, hm, e3⟩ := key i hi
    rw [e3] at hf ⊢
    show Ev te (((wipe σ vs).set j xs[i]?).set l ys[i]?) H1 (v x y)
    rw [e1, e2]
    exact (he x y hm hf).mono e
end
theorem small {n : Nat} (h : n ≤ 4000000) : n < sizeLine := Nat.lt_of_le_of_lt h (by decide)
theorem small' {n : Nat} (h : n ≤ 4000000) : n ≤ sizeLine := Nat.le_of_lt (small h)
theorem cxK {CX : CXT} {P : Program} {w : World} {K : PySem.W.Frag} {mg : Str → Option Value} {base : Heap} {N : List Str} {qual : Str} {scope : Scope} {f : Addr} {cd : Value} {A : Around} {outer : List Env} {s : Shared} {H : Hp} {E : XK} :
    (cxOf CX P w K mg base N qual scope f cd A outer s H E).nox.K = K := rfl
theorem cxW {CX : CXT} {P : Program} {w : World} {K : PySem.W.Frag} {mg : Str → Option Value} {base : Heap} {N : List Str} {qual : Str} {scope : Scope} {f : Addr} {cd : Value} {A : Around} {outer : List Env} {s : Shared} {H : Hp} {E : XK} :
    (cxOf CX P w K mg base N qual scope f cd A outer s H E).nox.w = w := rfl
theorem cxK' {CX : CXT} {P : Program} {w : World} {K : PySem.W.Frag} {mg : Str → Option Value} {base : Heap} {N : List Str} {qual : Str} {scope : Scope} {f : Addr} {cd : Value} {A : Around} {outer : List Env} {s : Shared} {H : Hp} {E : XK} :
    (cxOf CX P w K mg base N qual scope f cd A outer s H E).K = K := rfl
theorem cxW' {CX : CXT} {P : Program} {w : World} {K : PySem.W.Frag} {mg : Str → Option Value} {base : Heap} {N : List Str} {qual : Str} {scope : Scope} {f : Addr} {cd : Value} {A : Around} {outer : List Env} {s : Shared} {H : Hp} {E : XK} :
    (cxOf CX P w K mg base N qual scope f cd A outer s H E).w = w := rfl
end K17

-- text K17Text
set_option maxHeartbeats 4000000
/-! ## the defs' texts and scopes -/
namespace K17
open PySem PySem.Spec PyProof.Rows L2 Evl
def topS (i : Nat) : Stmt := PySem.Challenge.pw_cycleready_k17_whole_library_texts_spoil.main.body.getD i (.Pass ⟨0, 0, 0, 0⟩)
abbrev s_InvalidProgram_init : Stmt := inClass (topS 2) 0
abbrev s_InvalidLibrary_init : Stmt := inClass (topS 3) 0
abbrev s_InvalidText_init : Stmt := inClass (topS 4) 0
abbrev s_UnknownModule_init : Stmt := inClass (topS 6) 0
abbrev s_is_name : Stmt := topS 11
abbrev s_is_integer : Stmt := topS 12
abbrev s_is_variable : Stmt := topS 13
abbrev s_is_item : Stmt := topS 19
abbrev s_is_step : Stmt := topS 20
abbrev s_step_modules : Stmt := topS 21
abbrev s_is_wrong : Stmt := topS 22
abbrev s_first_problem : Stmt := topS 23
abbrev s_step_text : Stmt := topS 24
abbrev s_parse_integer : Stmt := topS 25
abbrev s_parse_step : Stmt := topS 26
abbrev s_check_library : Stmt := topS 29
abbrev s_Library_init : Stmt := inClass (topS 30) 0
abbrev s_Library_of : Stmt := inClass (topS 30) 1
abbrev s_Library_modules : Stmt := inClass (topS 30) 2
abbrev s_Library_has_module : Stmt := inClass (topS 30) 3
abbrev s_Library_initializer : Stmt := inClass (topS 30) 4
abbrev s_Library_state : Stmt := inClass (topS 30) 5
abbrev s_Library_eq : Stmt := inClass (topS 30) 6
abbrev s_Library_len : Stmt := inClass (topS 30) 7
abbrev s_Library_repr : Stmt := inClass (topS 30) 8
abbrev s_library_text : Stmt := topS 34
abbrev s_step_of_line : Stmt := topS 35
abbrev s_step_lines_problem : Stmt := topS 36
abbrev s_module_of_line : Stmt := topS 37
abbrev s_split_lines : Stmt := topS 38
abbrev s_step_lines_after : Stmt := topS 39
abbrev s_first_wrong : Stmt := topS 40
abbrev s_load_library : Stmt := topS 41
abbrev s_L_pot : Stmt := topS 43
abbrev s_L_draw : Stmt := topS 44
abbrev s_L_choice : Stmt := topS 45
abbrev s_L_word : Stmt := topS 46
abbrev s_L_words : Stmt := topS 47
abbrev s_L_mixed : Stmt := topS 48
abbrev s_L_integer : Stmt := topS 49
abbrev s_L_local_step : Stmt := topS 50
abbrev s_L_read_step : Stmt := topS 51
abbrev s_L_program : Stmt := topS 52
abbrev s_L_modules : Stmt := topS 53
abbrev s_L_is_label : Stmt := topS 54
abbrev s_L_is_number : Stmt := topS 55
abbrev s_L_step_read : Stmt := topS 56
abbrev s_L_head : Stmt := topS 57
abbrev s_L_block : Stmt := topS 58
abbrev s_L_is_wrong_step : Stmt := topS 59
abbrev s_L_is_wrong : Stmt := topS 60
abbrev s_L_wrong_line : Stmt := topS 61
abbrev s_L_line : Stmt := topS 62
abbrev s_L_changed : Stmt := topS 63
abbrev s_L_told : Stmt := topS 64
abbrev s_L_right : Stmt := topS 65
abbrev s_law : Stmt := topS 66
abbrev n_InvalidProgram_init : List Str := ["self", "position"]
theorem sc_InvalidProgram_init : FnScope n_InvalidProgram_init ["self", "position"] (defScope s_InvalidProgram_init) := ⟨rfl, rfl, rfl, by decide +kernel, rfl, by decide +kernel, by decide +kernel⟩
abbrev n_InvalidLibrary_init : List Str := ["self", "module", "position"]
theorem sc_InvalidLibrary_init : FnScope n_InvalidLibrary_init ["self", "module", "position"] (defScope s_InvalidLibrary_init) := ⟨rfl, rfl, rfl, by decide +kernel, rfl, by decide +kernel, by decide +kernel⟩
abbrev n_InvalidText_init : List Str := ["self", "line"]
theorem sc_InvalidText_init : FnScope n_InvalidText_init ["self", "line"] (defScope s_InvalidText_init) := ⟨rfl, rfl, rfl, by decide +kernel, rfl, by decide +kernel, by decide +kernel⟩
abbrev n_UnknownModule_init : List Str := ["self", "value"]
theorem sc_UnknownModule_init : FnScope n_UnknownModule_init ["self", "value"] (defScope s_UnknownModule_init) := ⟨rfl, rfl, rfl, by decide +kernel, rfl, by decide +kernel, by decide +kernel⟩
abbrev n_is_name : List Str := ["value", "letter"]
theorem sc_is_name : FnScope n_is_name ["value"] (defScope s_is_name) := ⟨rfl, rfl, rfl, by decide +kernel, rfl, by decide +kernel, by decide +kernel⟩
abbrev n_is_integer : List Str := ["value"]
theorem sc_is_integer : FnScope n_is_integer ["value"] (defScope s_is_integer) := ⟨rfl, rfl, rfl, by decide +kernel, rfl, by decide +kernel, by decide +kernel⟩
abbrev n_is_variable : List Str := ["value"]
theorem sc_is_variable : FnScope n_is_variable ["value"] (defScope s_is_variable) := ⟨rfl, rfl, rfl, by decide +kernel, rfl, by decide +kernel, by decide +kernel⟩
abbrev n_is_item : List Str := ["kind", "value"]
theorem sc_is_item : FnScope n_is_item ["kind", "value"] (defScope s_is_item) := ⟨rfl, rfl, rfl, by decide +kernel, rfl, by decide +kernel, by decide +kernel⟩
abbrev n_is_step : List Str := ["value", "kinds", "kind", "item"]
theorem sc_is_step : FnScope n_is_step ["value"] (defScope s_is_step) := ⟨rfl, rfl, rfl, by decide +kernel, rfl, by decide +kernel, by decide +kernel⟩
abbrev n_step_modules : List Str := ["step", "kind", "item"]
theorem sc_step_modules : FnScope n_step_modules ["step"] (defScope s_step_modules) := ⟨rfl, rfl, rfl, by decide +kernel, rfl, by decide +kernel, by decide +kernel⟩
abbrev n_is_wrong : List Str := ["step", "after", "is_main", "known", "module"]
theorem sc_is_wrong : FnScope n_is_wrong ["step", "after", "is_main", "known"] (defScope s_is_wrong) := ⟨rfl, rfl, rfl, by decide +kernel, rfl, by decide +kernel, by decide +kernel⟩
abbrev n_first_problem : List Str := ["value", "is_main", "known", "position", "step"]
theorem sc_first_problem : FnScope n_first_problem ["value", "is_main", "known"] (defScope s_first_problem) := ⟨rfl, rfl, rfl, by decide +kernel, rfl, by decide +kernel, by decide +kernel⟩
abbrev n_step_text : List Str := ["step", "item"]
theorem sc_step_text : FnScope n_step_text ["step"] (defScope s_step_text) := ⟨rfl, rfl, rfl, by decide +kernel, rfl, by decide +kernel, by decide +kernel⟩
abbrev n_parse_integer : List Str := ["word", "digits", "number", "sign"]
theorem sc_parse_integer : FnScope n_parse_integer ["word"] (defScope s_parse_integer) := ⟨rfl, rfl, rfl, by decide +kernel, rfl, by decide +kernel, by decide +kernel⟩
abbrev n_parse_step : List Str := ["text", "word", "items", "kinds", "parsed", "kind", "item", "step"]
theorem sc_parse_step : FnScope n_parse_step ["text"] (defScope s_parse_step) := ⟨rfl, rfl, rfl, by decide +kernel, rfl, by decide +kernel, by decide +kernel⟩
abbrev n_check_library : List Str := ["value", "known", "module", "program", "problem"]
theorem sc_check_library : FnScope n_check_library ["value"] (defScope s_check_library) := ⟨rfl, rfl, rfl, by decide +kernel, rfl, by decide +kernel, by decide +kernel⟩
abbrev n_Library_init : List Str := ["self", "modules", "module"]
theorem sc_Library_init : FnScope n_Library_init ["self", "modules"] (defScope s_Library_init) := ⟨rfl, rfl, rfl, by decide +kernel, rfl, by decide +kernel, by decide +kernel⟩
abbrev n_Library_of : List Str := ["cls", "pairs", "modules", "module", "program"]
theorem sc_Library_of : FnScope n_Library_of ["cls", "pairs"] (defScope s_Library_of) := ⟨rfl, rfl, rfl, by decide +kernel, rfl, by decide +kernel, by decide +kernel⟩
abbrev n_Library_modules : List Str := ["self"]
theorem sc_Library_modules : FnScope n_Library_modules ["self"] (defScope s_Library_modules) := ⟨rfl, rfl, rfl, by decide +kernel, rfl, by decide +kernel, by decide +kernel⟩
abbrev n_Library_has_module : List Str := ["self", "value"]
theorem sc_Library_has_module : FnScope n_Library_has_module ["self", "value"] (defScope s_Library_has_module) := ⟨rfl, rfl, rfl, by decide +kernel, rfl, by decide +kernel, by decide +kernel⟩
abbrev n_Library_initializer : List Str := ["self", "module"]
theorem sc_Library_initializer : FnScope n_Library_initializer ["self", "module"] (defScope s_Library_initializer) := ⟨rfl, rfl, rfl, by decide +kernel, rfl, by decide +kernel, by decide +kernel⟩
abbrev n_Library_state : List Str := ["self", "module", "steps"]
theorem sc_Library_state : FnScope n_Library_state ["self"] (defScope s_Library_state) := ⟨rfl, rfl, rfl, by decide +kernel, rfl, by decide +kernel, by decide +kernel⟩
abbrev n_Library_eq : List Str := ["self", "other"]
theorem sc_Library_eq : FnScope n_Library_eq ["self", "other"] (defScope s_Library_eq) := ⟨rfl, rfl, rfl, by decide +kernel, rfl, by decide +kernel, by decide +kernel⟩
abbrev n_Library_len : List Str := ["self"]
theorem sc_Library_len : FnScope n_Library_len ["self"] (defScope s_Library_len) := ⟨rfl, rfl, rfl, by decide +kernel, rfl, by decide +kernel, by decide +kernel⟩
abbrev n_Library_repr : List Str := ["self", "programs", "module", "steps"]
theorem sc_Library_repr : FnScope n_Library_repr ["self"] (defScope s_Library_repr) := ⟨rfl, rfl, rfl, by decide +kernel, rfl, by decide +kernel, by decide +kernel⟩
abbrev n_library_text : List Str := ["library", "lines", "module", "line", "step"]
theorem sc_library_text : FnScope n_library_text ["library"] (defScope s_library_text) := ⟨rfl, rfl, rfl, by decide +kernel, rfl, by decide +kernel, by decide +kernel⟩
abbrev n_step_of_line : List Str := ["line"]
theorem sc_step_of_line : FnScope n_step_of_line ["line"] (defScope s_step_of_line) := ⟨rfl, rfl, rfl, by decide +kernel, rfl, by decide +kernel, by decide +kernel⟩
abbrev n_step_lines_problem : List Str := ["lines", "known", "is_main", "index", "line"]
theorem sc_step_lines_problem : FnScope n_step_lines_problem ["lines", "known", "is_main"] (defScope s_step_lines_problem) := ⟨rfl, rfl, rfl, by decide +kernel, rfl, by decide +kernel, by decide +kernel⟩
abbrev n_module_of_line : List Str := ["line", "name"]
theorem sc_module_of_line : FnScope n_module_of_line ["line"] (defScope s_module_of_line) := ⟨rfl, rfl, rfl, by decide +kernel, rfl, by decide +kernel, by decide +kernel⟩
abbrev n_split_lines : List Str := ["text", "lines", "is_ended"]
theorem sc_split_lines : FnScope n_split_lines ["text"] (defScope s_split_lines) := ⟨rfl, rfl, rfl, by decide +kernel, rfl, by decide +kernel, by decide +kernel⟩
abbrev n_step_lines_after : List Str := ["lines", "index", "end"]
theorem sc_step_lines_after : FnScope n_step_lines_after ["lines", "index"] (defScope s_step_lines_after) := ⟨rfl, rfl, rfl, by decide +kernel, rfl, by decide +kernel, by decide +kernel⟩
abbrev n_first_wrong : List Str := ["lines", "known", "index", "count", "before", "module", "block", "problem"]
theorem sc_first_wrong : FnScope n_first_wrong ["lines", "known"] (defScope s_first_wrong) := ⟨rfl, rfl, rfl, by decide +kernel, rfl, by decide +kernel, by decide +kernel⟩
abbrev n_load_library : List Str := ["text", "lines", "is_ended", "known", "wrong", "programs", "index", "line", "module", "step"]
theorem sc_load_library : FnScope n_load_library ["text"] (defScope s_load_library) := ⟨rfl, rfl, rfl, by decide +kernel, rfl, by decide +kernel, by decide +kernel⟩
abbrev n_L_pot : List Str := ["_law_script", "_law_index", "_law_cell"]
theorem sc_L_pot : FnScope n_L_pot ["_law_script", "_law_index"] (defScope s_L_pot) := ⟨rfl, rfl, rfl, by decide +kernel, rfl, by decide +kernel, by decide +kernel⟩
abbrev n_L_draw : List Str := ["_law_pot_here", "_law_bound", "_law_digit"]
theorem sc_L_draw : FnScope n_L_draw ["_law_pot_here", "_law_bound"] (defScope s_L_draw) := ⟨rfl, rfl, rfl, by decide +kernel, rfl, by decide +kernel, by decide +kernel⟩
abbrev n_L_choice : List Str := ["_law_pot_here", "_law_options"]
theorem sc_L_choice : FnScope n_L_choice ["_law_pot_here", "_law_options"] (defScope s_L_choice) := ⟨rfl, rfl, rfl, by decide +kernel, rfl, by decide +kernel, by decide +kernel⟩
abbrev n_L_word : List Str := ["_law_pot_here", "_law_used", "_law_letters", "_law_size", "_law_word_here", "_law_spare", "_law_turn", "_law_at", "_law_one"]
theorem sc_L_word : FnScope n_L_word ["_law_pot_here", "_law_used"] (defScope s_L_word) := ⟨rfl, rfl, rfl, by decide +kernel, rfl, by decide +kernel, by decide +kernel⟩
abbrev n_L_words : List Str := ["_law_pot_here", "_law_number", "_law_found", "_law_turn"]
theorem sc_L_words : FnScope n_L_words ["_law_pot_here", "_law_number"] (defScope s_L_words) := ⟨rfl, rfl, rfl, by decide +kernel, rfl, by decide +kernel, by decide +kernel⟩
abbrev n_L_mixed : List Str := ["_law_pot_here", "_law_options", "_law_rest", "_law_found"]
theorem sc_L_mixed : FnScope n_L_mixed ["_law_pot_here", "_law_options"] (defScope s_L_mixed) := ⟨rfl, rfl, rfl, by decide +kernel, rfl, by decide +kernel, by decide +kernel⟩
abbrev n_L_integer : List Str := ["_law_pot_here"]
theorem sc_L_integer : FnScope n_L_integer ["_law_pot_here"] (defScope s_L_integer) := ⟨rfl, rfl, rfl, by decide +kernel, rfl, by decide +kernel, by decide +kernel⟩
abbrev n_L_local_step : List Str := ["_law_pot_here", "_law_room", "_law_labels", "_law_is_main", "_law_word_here", "_law_one", "_law_other"]
theorem sc_L_local_step : FnScope n_L_local_step ["_law_pot_here", "_law_room", "_law_labels", "_law_is_main"] (defScope s_L_local_step) := ⟨rfl, rfl, rfl, by decide +kernel, rfl, by decide +kernel, by decide +kernel⟩
abbrev n_L_read_step : List Str := ["_law_pot_here", "_law_targets", "_law_labels", "_law_earlier", "_law_known", "_law_module", "_law_step"]
theorem sc_L_read_step : FnScope n_L_read_step ["_law_pot_here", "_law_targets", "_law_labels", "_law_earlier"] (defScope s_L_read_step) := ⟨rfl, rfl, rfl, by decide +kernel, rfl, by decide +kernel, by decide +kernel⟩
abbrev n_L_program : List Str := ["_law_pot_here", "_law_targets", "_law_labels", "_law_most", "_law_is_main", "_law_found", "_law_size", "_law_place", "_law_way"]
theorem sc_L_program : FnScope n_L_program ["_law_pot_here", "_law_targets", "_law_labels", "_law_most", "_law_is_main"] (defScope s_L_program) := ⟨rfl, rfl, rfl, by decide +kernel, rfl, by decide +kernel, by decide +kernel⟩
abbrev n_L_modules : List Str := ["_law_pot_here", "_law_most", "_law_longest", "_law_is_acyclic", "_law_names", "_law_order", "_law_labels", "_law_found", "_law_name", "_law_later"]
theorem sc_L_modules : FnScope n_L_modules ["_law_pot_here", "_law_most", "_law_longest", "_law_is_acyclic"] (defScope s_L_modules) := ⟨rfl, rfl, rfl, by decide +kernel, rfl, by decide +kernel, by decide +kernel⟩
abbrev n_L_is_label : List Str := ["_law_thing", "_law_letter"]
theorem sc_L_is_label : FnScope n_L_is_label ["_law_thing"] (defScope s_L_is_label) := ⟨rfl, rfl, rfl, by decide +kernel, rfl, by decide +kernel, by decide +kernel⟩
abbrev n_L_is_number : List Str := ["_law_word_here", "_law_digits", "_law_sign"]
theorem sc_L_is_number : FnScope n_L_is_number ["_law_word_here"] (defScope s_L_is_number) := ⟨rfl, rfl, rfl, by decide +kernel, rfl, by decide +kernel, by decide +kernel⟩
abbrev n_L_step_read : List Str := ["_law_shown", "_law_words_here", "_law_boxes", "_law_labels", "_law_sizes", "_law_at"]
theorem sc_L_step_read : FnScope n_L_step_read ["_law_shown"] (defScope s_L_step_read) := ⟨rfl, rfl, rfl, by decide +kernel, rfl, by decide +kernel, by decide +kernel⟩
abbrev n_L_head : List Str := ["_law_row", "_law_words_here"]
theorem sc_L_head : FnScope n_L_head ["_law_row"] (defScope s_L_head) := ⟨rfl, rfl, rfl, by decide +kernel, rfl, by decide +kernel, by decide +kernel⟩
abbrev n_L_block : List Str := ["_law_rows", "_law_at", "_law_start"]
theorem sc_L_block : FnScope n_L_block ["_law_rows", "_law_at"] (defScope s_L_block) := ⟨rfl, rfl, rfl, by decide +kernel, rfl, by decide +kernel, by decide +kernel⟩
abbrev n_L_is_wrong_step : List Str := ["_law_rows", "_law_at", "_law_names", "_law_start", "_law_end", "_law_step"]
theorem sc_L_is_wrong_step : FnScope n_L_is_wrong_step ["_law_rows", "_law_at", "_law_names"] (defScope s_L_is_wrong_step) := ⟨rfl, rfl, rfl, by decide +kernel, rfl, by decide +kernel, by decide +kernel⟩
abbrev n_L_is_wrong : List Str := ["_law_rows", "_law_at", "_law_names", "_law_name", "_law_earlier", "_law_row"]
theorem sc_L_is_wrong : FnScope n_L_is_wrong ["_law_rows", "_law_at", "_law_names"] (defScope s_L_is_wrong) := ⟨rfl, rfl, rfl, by decide +kernel, rfl, by decide +kernel, by decide +kernel⟩
abbrev n_L_wrong_line : List Str := ["_law_shown", "_law_rows", "_law_rest", "_law_names", "_law_at", "_law_row"]
theorem sc_L_wrong_line : FnScope n_L_wrong_line ["_law_shown"] (defScope s_L_wrong_line) := ⟨rfl, rfl, rfl, by decide +kernel, rfl, by decide +kernel, by decide +kernel⟩
abbrev n_L_line : List Str := ["_law_pot_here", "_law_rows", "_law_options"]
theorem sc_L_line : FnScope n_L_line ["_law_pot_here", "_law_rows"] (defScope s_L_line) := ⟨rfl, rfl, rfl, by decide +kernel, rfl, by decide +kernel, by decide +kernel⟩
abbrev n_L_changed : List Str := ["_law_pot_here", "_law_shown", "_law_rows", "_law_way", "_law_at", "_law_place", "_law_other", "_law_sign"]
theorem sc_L_changed : FnScope n_L_changed ["_law_pot_here", "_law_shown"] (defScope s_L_changed) := ⟨rfl, rfl, rfl, by decide +kernel, rfl, by decide +kernel, by decide +kernel⟩
abbrev n_L_told : List Str := ["_law_thing", "_law_told_here", "e", "_law_others"]
theorem sc_L_told : FnScope n_L_told ["_law_thing"] (defScope s_L_told) := ⟨rfl, rfl, rfl, by decide +kernel, rfl, by decide +kernel, by decide +kernel⟩
abbrev n_L_right : List Str := ["_law_shown", "_law_due", "_law_word_here"]
theorem sc_L_right : FnScope n_L_right ["_law_shown"] (defScope s_L_right) := ⟨rfl, rfl, rfl, by decide +kernel, rfl, by decide +kernel, by decide +kernel⟩
abbrev n_law : List Str := ["_law_script", "_law_k", "_law_pot_here", "_law_longest", "_law_size", "_law_modules_here", "_law_labels", "_law_whole", "_law_name", "_law_steps", "_law_turn", "_law_shown", "_law_stroke", "_law_thing", "_law_many", "_law_fixed", "_law_at", "_law_each", "_law_step", "_law_part"]
theorem sc_law : FnScope n_law ["_law_script"] (defScope s_law) := ⟨rfl, rfl, rfl, by decide +kernel, rfl, by decide +kernel, by decide +kernel⟩
/-- what the head tells of a def -/
def Fd (K : PySem.W.Frag) (mg : Str → Option Value) (x : Str) (st : Stmt) (kws : List (Str × V)) : Prop := ∃ (f : Addr) (fd : FuncData), mg x = some (.ref f) ∧ FunD K x x (defArgs st) (defBody st) (defScope st) [] kws f fd
section
variable {P : Program} {w : World} {K : PySem.W.Frag} {mg : Str → Option Value} {base : Heap} {CX : CXT} {x : Str} {st : Stmt} {N ps : List Str} {sp : Sp}
theorem mkOk (k : Nat) (F : Fd K mg x st []) (S : FnScope N ps (defScope st))
    (hb : ∀ (kV doc pm : Value) (an : Option Addr) (cdv ct : Value) (us : List Value), us.length = ps.length → bindArgs (PySem.W.fnOf x x (defArgs st) (defBody st) (defScope st) .none kV doc pm an cdv ct) ⟨us, []⟩ = pure (ps.zip us))
    (len : ∀ vs H Q E, sp vs H Q E → vs.length = ps.length)
    (body : ∀ (f : Addr) (cdv : Value) (A : Around) (outer : List Env) (s : Shared) (H : Hp) (vs : List V) (Q : VK) (E : XK), Room k (A.deeper (envOfC x (defScope st) s.heap.objs.size f cdv)) → sp vs H Q E →
      ∃ t, PSs (cxOf CX P w K mg base N x (defScope st) f cdv A outer s H E) (defBody st) t ∧ t { nx := fun _ H' => Q .non H', rt := Q } (start N vs) H) : Ok P w K mg base CX (k + 1) x ps sp := by
  obtain ⟨f, fd, hm, F⟩ := F
  exact ⟨f, fd, hm, F.kp, F.bindsN hb, F.ok S len fun cdv A outer s H vs Q E hr h => body f cdv A outer s H vs Q E hr h⟩
end
end K17

-- text K17Ops
set_option maxHeartbeats 4000000
/-! ## own rules: == and != with an empty list or tuple; small lemmas -/
namespace K17
open PySem PySem.Spec PyProof.Rows L2 Evl
section
variable {X : Cx}
def rNilL (K : PySem.W.Frag) (neg : Bool) : R2 := fun x y H Q => ∃ p q xs, x = .ref p ∧ y = .ref q ∧ SqL K H p xs ∧ SqL K H q [] ∧ Q (.bl (if neg then !xs.isEmpty else xs.isEmpty)) H
def rNilT (K : PySem.W.Frag) : R2 := fun x y H Q => ∃ p q xs, x = .ref p ∧ y = .ref q ∧ SqT K H p xs ∧ SqT K H q [] ∧ Q (.bl xs.isEmpty) H
theorem vals_nil {its : List Value} (r : Vals [] its) : its = [] := by cases r; rfl
theorem op_eqE (hu : X.A.units < cLine) : OpR X (compareOp .Eq) (rNilL X.K false) := by
  intro pins s σ H x y v u Q I rx ry h
  obtain ⟨p, q, xs, rfl, rfl, h1, h2, hQ⟩ := h
  cases rx
  cases ry
  obtain ⟨its, r, pl, _⟩ := I.list h1
  obtain ⟨its2, r2, pl2, _⟩ := I.list h2
  have e2 := vals_nil r2
  subst e2
  cases xs with
  | nil =>
    have e1 := vals_nil r
    subst e1
    exact SeqAt.eq_listAt (e := fun _ => true) pl.isList pl2.isList rfl hu (fun j h1 h2 => absurd h1 (by simp)) ⟨.bl true, H, I, rfl, hQ⟩
  | cons z zs =>
    have hl := r.length
    refine SeqAt.eq_list_lengthsAt pl.isList pl2.isList ?_ hu ⟨.bl false, H, I, rfl, hQ⟩
    rw [List.length_cons] at hl
    simp only [List.size_toArray, List.length_nil, bne_iff_ne, ne_eq]
    omega
theorem op_neE (hu : X.A.units < cLine) : OpR X (compareOp .NotEq) (rNilL X.K true) := by
  intro pins s σ H x y v u Q I rx ry h
  obtain ⟨p, q, xs, rfl, rfl, h1, h2, hQ⟩ := h
  cases rx
  cases ry
  obtain ⟨its, r, pl, _⟩ := I.list h1
  obtain ⟨its2, r2, pl2, _⟩ := I.list h2
  have e2 := vals_nil r2
  subst e2
  cases xs with
  | nil =>
    have e1 := vals_nil r
    subst e1
    exact SeqAt.RcNeAt.lists (e := fun _ => true) pl.isList pl2.isList rfl hu (fun j h1 h2 => absurd h1 (by simp)) _ _ _ _ ⟨.bl false, H, I, rfl, hQ⟩
  | cons z zs =>
    have hl := r.length
    refine SeqAt.RcNeAt.lists_lengths pl.isList pl2.isList ?_ hu _ _ _ _ ⟨.bl true, H, I, rfl, hQ⟩
    rw [List.length_cons] at hl
    simp only [List.size_toArray, List.length_nil, bne_iff_ne, ne_eq]
    omega
theorem op_eqTE (hu : X.A.units < cLine) : OpR X (compareOp .Eq) (rNilT X.K) := by
  intro pins s σ H x y v u Q I rx ry h
  obtain ⟨p, q, xs, rfl, rfl, h1, h2, hQ⟩ := h
  cases rx
  cases ry
  obtain ⟨its, r, pl, _⟩ := I.tuple h1
  obtain ⟨its2, r2, pl2, _⟩ := I.tuple h2
  have e2 := vals_nil r2
  subst e2
  refine SeqAt.eq_tupleAt (e := fun _ => true) pl pl2 hu (fun j h1 h2 => absurd h2 (by simp)) ⟨.bl xs.isEmpty, H, I, ?_, hQ⟩
  cases xs with
  | nil =>
    have e1 := vals_nil r
    subst e1
    rfl
  | cons z zs =>
    have hl := r.length
    rw [List.length_cons] at hl
    have e : (its.toArray.size == ([] : List Value).toArray.size) = false := by
      simp only [List.size_toArray, List.length_nil, beq_eq_false_iff_ne, ne_eq]
      omega
    show Value.bool (_ && (its.toArray.size == ([] : List Value).toArray.size)) = Value.bool false
    rw [e, Bool.and_false]
end
/-! ### comprehensions over a mapped list -/
section
variable {J : It} {S : Hp → Prop} {tt : TT} {te : TE} {vs : List Nat} {σ : L2.St} {H : Hp} {Q : VK} {j : Nat} {α : Type} {ys : List α} {gv : α → V}
theorem lcM (G : Goes J (gName j) (ys.map gv).length S (fun i σ => σ.set j (ys.map gv)[i]?)) (hS : ∀ H', Ex H H' → S H') (f : α → Bool) (v : α → V)
    (ht : ∀ x ∈ ys, EvT tt ((wipe σ vs).set j (some (gv x))) H (f x)) (he : ∀ x ∈ ys, f x = true → Ev te ((wipe σ vs).set j (some (gv x))) H (v x))
    (k : ∀ D H2, H D = none → Ex H H2 → H2 D = some (.lst ((ys.filter f).map v)) → Q (.ref D) H2) (hw : ∀ o, wipe ((wipe σ vs).set j o) vs = wipe σ vs) : LcW J (gName j) tt te vs σ H Q := by
  have key : ∀ i, i < (ys.map gv).length → ∃ x, ys[i]? = some x ∧ x ∈ ys ∧ (ys.map gv)[i]? = some (gv x) := by
    intro i hi
    rw [List.length_map] at hi
    exact ⟨ys[i], by simp [hi], List.getElem_mem hi, by simp [hi]⟩
  have gz : given (ys.map gv).length (fun i => match ys[i]? with | some x => f x | none => false) (fun i => match ys[i]? with | some x => v x | none => .non) = (ys.filter f).map v := by
    rw [List.length_map]
    unfold given
    have e : ys.map some = (List.range ys.length).map fun i => ys[i]? := by
      apply List.ext_getElem
      · simp
      · intro i h1 h2
        rw [List.getElem_map, List.getElem_map, List.getElem_range]
        rw [List.length_map] at h1
        rw [List.getElem?_eq_getElem h1]
    have e2 : (ys.filter f).map v = ((ys.map some).filter fun o => match o with | some x => f x | none => false).map fun o => match o with | some x => v x | none => .non := by
      rw [List.filter_map, List.map_map]
      rfl
    rw [e2, e, List.filter_map, List.map_map]
    rfl
  refine lcE G (fun i _ => hw _) hS _ _ (fun i H1 hi e => ?_) (fun i H1 hi e hf => ?_) (fun D H2 h1 h2 h3 => k D H2 h1 h2 (by rw [gz] at h3; exact h3))
  · obtain ⟨x, e1, hm, e2⟩ := key i hi
    rw [e1]
    show EvT tt ((wipe σ vs).set j (ys.map gv)[i]?) H1 (f x)
    rw [e2]
    exact (ht x hm).mono e
  · obtain ⟨x, e1, hm, e2⟩ := key i hi
    rw [e1] at hf ⊢
    show Ev te ((wipe σ vs).set j (ys.map gv)[i]?) H1 (v x)
    rw [e2]
    exact (he x hm hf).mono e
theorem lcMA (G : Goes J (gName j) (ys.map gv).length S (fun i σ => σ.set j (ys.map gv)[i]?)) (hS : ∀ H', Ex H H' → S H') (v : α → V)
    (he : ∀ x ∈ ys, Ev te ((wipe σ vs).set j (some (gv x))) H (v x))
    (k : ∀ D H2, H D = none → Ex H H2 → H2 D = some (.lst (ys.map v)) → Q (.ref D) H2) (hw : ∀ o, wipe ((wipe σ vs).set j o) vs = wipe σ vs) : LcW J (gName j) tYes te vs σ H Q :=
  lcM G hS (fun _ => true) v (fun x _ => et_yes) (fun x hx _ => he x hx) (fun D H2 h1 h2 h3 => k D H2 h1 h2 (by rw [List.filter_eq_self.mpr (fun _ _ => rfl)] at h3; exact h3)) hw
end
theorem pg_two {X : Cx} (K : PySem.W.Frag) {i j : Nat} {x y : Str} {px py pos : Pos} {k : Nat} (hN : X.N.Nodup) (hi : X.N[i]? = some x) (hj : X.N[j]? = some y) (hx : Loc X.env.scope x) (hy : Loc X.env.scope y) (hc : X.calm = true)
    (hf : X.fn x = true ∨ X.env.scope.names.lookup x = some .local := by first | exact .inl rfl | exact .inr rfl | assumption) (hg : X.fn y = true ∨ X.env.scope.names.lookup y = some .local := by first | exact .inl rfl | exact .inr rfl | assumption) (hK : X.K = K := by rfl) :
    PG X (.Tuple [.Name x px, .Name y py] k pos) (gTup K 2 (gCons (gName i) (gCons (gName j) gNil))) :=
  hK ▸ pg_tup hc (pgs_cons (pg_name hN hi hx hf) (pgs_cons (pg_name hN hj hy hg) pgs_nil))
/-! ### rules inside of a comprehension's block: the written part by its name -/
theorem ix_listB {X : Cx} (K : PySem.W.Frag) (hK : X.K = K := by rfl) : IxR X (rIxL K) := hK ▸ ix_list
theorem ix_tupB {X : Cx} (K : PySem.W.Frag) (hK : X.K = K := by rfl) : IxR X (rIxT K) := hK ▸ ix_tup
theorem op_in_seqB {X : Cx} (K : PySem.W.Frag) (hK : X.K = K := by rfl) : OpR X (compareOp .In) (rIn K false) := hK ▸ op_in_seq
theorem op_notIn_seqB {X : Cx} (K : PySem.W.Frag) (hK : X.K = K := by rfl) : OpR X (compareOp .NotIn) (rIn K true) := hK ▸ op_notIn_seq
theorem call_tuple_ofB {X : Cx} (K : PySem.W.Frag) (hK : X.K = K := by rfl) : CallR X (.type "tuple") (fun xs H Q => ∃ p ys, xs = [.ref p] ∧ ((SqL K H p ys ∧ ∀ l, H l = none → Q (.ref l) (upd H l (.tup ys))) ∨ (SqT K H p ys ∧ Q (.ref p) H))) := hK ▸ call_tuple_of
theorem pi_tupB {X : Cx} (K : PySem.W.Frag) {tg e : Expr} {te : TE} (he : PE X e te) (hK : X.K = K := by rfl) : PI X tg e (iTup K te) := hK ▸ pi_tup he
/-! ### slices, places -/
theorem cut1 {x : V} {xs : List V} : cutV (x :: xs) (some 1) none = xs := by
  unfold cutV
  have e1 : HT.sIx (x :: xs).length 0 (some 1) = 1 := (HT.sIx_nat _ 0 1).trans (by simp)
  rw [e1, HT.sIx_none]
  simp
theorem cut1_part {x : V} {xs : List V} : ¬ (HT.sIx (x :: xs).length 0 (some 1) = 0 ∧ HT.sIx (x :: xs).length (x :: xs).length none = (x :: xs).length) := by
  rintro ⟨h, _⟩
  have e1 : HT.sIx (x :: xs).length 0 (some 1) = 1 := (HT.sIx_nat _ 0 1).trans (by simp)
  omega
theorem at0 {α : Type} {x : α} {xs : List α} : atI (x :: xs) 0 = some x := by simp [atI, ixN]
theorem atN {α : Type} {xs : List α} {i : Nat} {x : α} (h : xs[i]? = some x) : atI xs (i : Int) = some x := by
  have hl := (List.getElem?_eq_some_iff.mp h).1
  unfold atI
  rw [ixN_nat hl]
  exact h
section
variable {K : PySem.W.Frag} {w : World} {H : Hp} {Q : VK} {a p : Addr} {xs : List V} {i : Int} {v x : V}
theorem ixT (h : SqT K H a xs) (e : atI xs i = some v) (q : Q v H) : rIxT K (.ref a) (.int i) H Q := ⟨a, xs, i, v, rfl, rfl, h, e, q⟩
theorem ixL (h : SqL K H a xs) (e : atI xs i = some v) (q : Q v H) : rIxL K (.ref a) (.int i) H Q := ⟨a, xs, i, v, rfl, rfl, h, e, q⟩
theorem ixD {z : Str} (h : KDct K w a z v) (q : Q v H) : rIxD K w (.ref a) (.str z) H Q := ⟨a, z, v, rfl, rfl, h, q⟩
theorem slT1 (h : SqT K H a (x :: xs)) (q : ∀ p H2, H p = none → Ex H H2 → H2 p = some (.tup xs) → Q (.ref p) H2) : rSlT K (.ref a) (some 1) none H Q :=
  ⟨a, x :: xs, rfl, h, cut1_part, fun p hp => q p _ hp (Ex.new hp) (by rw [upd_same, cut1])⟩
theorem inQ (h : SqL K H a xs ∨ SqT K H a xs) (h1 : flatV x = true) (h2 : xs.all flatV = true) (q : Q (.bl (inV x xs)) H) : rIn K false x (.ref a) H Q := ⟨a, xs, rfl, h, h1, h2, q⟩
theorem ninQ (h : SqL K H a xs ∨ SqT K H a xs) (h1 : flatV x = true) (h2 : xs.all flatV = true) (q : Q (.bl (!inV x xs)) H) : rIn K true x (.ref a) H Q := ⟨a, xs, rfl, h, h1, h2, q⟩
theorem allQ {bs : List Bool} (h : H a = some (.lst (bs.map V.bl))) (q : Q (.bl (bs.all id)) H) : rAll K [.ref a] H Q := ⟨a, bs, rfl, SqL.of h, q⟩
end
section
variable {K : PySem.W.Frag} {H : Hp} {Q : VK} {l b : Addr} {xs zs : List V} {y : V}
theorem appQ (h : H l = some (.lst xs)) (hz : xs.length < sizeLine) (q : Q .non (upd H l (.lst (xs ++ [y])))) : rAppend (.ref l) [y] H Q := ⟨l, xs, y, rfl, rfl, h, hz, q⟩
theorem tyL (h : SqL K H l xs) : tyV K "list" (.ref l) H := Or.inl ⟨rfl, xs, h⟩
theorem catQ (h1 : H l = some (.lst xs)) (h2 : H b = some (.lst zs)) (hz : xs.length + zs.length ≤ sizeLine) (q : ∀ p, H p = none → Q (.ref p) (upd H p (.lst (xs ++ zs)))) : rCat (.ref l) (.ref b) H Q := ⟨l, b, xs, zs, rfl, rfl, h1, h2, hz, q⟩
theorem inV_strs (k : Str) (ls : List Str) : inV (.str k) (ls.map V.str) = decide (k ∈ ls) := by
  unfold inV
  rw [List.any_map, Bool.eq_iff_iff, List.any_eq_true, decide_eq_true_eq]
  constructor
  · rintro ⟨x, hx, e⟩
    have e2 : (x == k) = true := e
    rw [beq_iff_eq] at e2
    rw [← e2]
    exact hx
  · intro h
    exact ⟨k, h, by show (k == k) = true; exact beq_self_eq_true k⟩
end
/-- heaps that only grew -/
theorem exT {K : PySem.W.Frag} {H H' : Hp} {a : Addr} {xs : List V} (e : Ex H H') (h : SqT K H a xs) : SqT K H' a xs := ex_t e h
theorem same_of {H H' : Hp} (e : Ex H H') : Same H H' := e
end K17

-- text K17P1
set_option maxHeartbeats 8000000
namespace K17
open PySem PySem.Spec PyProof.Rows L2 Evl
variable {P : Program} {w : World} {K : PySem.W.Frag} {mg : Str → Option Value} {base : Heap} {d : Ad}
/-! ## names, integers, variables, items, steps -/
def lowB (c : Nat) : Bool := decide (97 ≤ c) && decide (c ≤ 122)
def nmL (l : List Nat) : Bool := decide (1 ≤ l.length) && decide (l.length ≤ 8) && l.all lowB
abbrev nmB (x : Str) : Bool := nmL (TL.tl x)
theorem letters_tl : (Str.ofString "abcdefghijklmnopqrstuvwxyz").cps.toList = [97, 98, 99, 100, 101, 102, 103, 104, 105, 106, 107, 108, 109, 110, 111, 112, 113, 114, 115, 116, 117, 118, 119, 120, 121, 122] := by decide +kernel
theorem letters_low (c : Nat) : decide (c ∈ (Str.ofString "abcdefghijklmnopqrstuvwxyz").cps.toList) = lowB c := by
  rw [letters_tl, Bool.eq_iff_iff]
  simp only [List.mem_cons, List.not_mem_nil, or_false, decide_eq_true_eq, lowB, Bool.and_eq_true]
  omega
def spName : Sp := fun vs H Q _ => ∃ x : Str, vs = [.str x] ∧ x.length ≤ 4000000 ∧ ∀ H', Ex H H' → Q (.bl (nmB x)) H'
theorem o_is_name (T : Tx w K mg d) (F : Fd K mg "is_name" s_is_name []) : Ok0 P w K mg base 3 "is_name" ["value"] spName := by
  refine mkOk 2 F sc_is_name (fun _ _ _ _ _ _ us hl => match us, hl with | [_], _ => rfl) (fun vs H Q E h => by obtain ⟨x, rfl, _⟩ := h; rfl) fun f cdv A outer s H vs Q E hr h => ?_
  obtain ⟨x, rfl, hx, hQ⟩ := h
  refine ⟨_, PSs.nox (pss_cons (ps_if (PW.pt (pw_or (pt_not (pt_val (pe_callB call_isV (by rfl) T.b_isinstance (by decide +kernel) (pa_cons (pv 0) (pa_cons (pe_bltn (v := .ty "str") (u := .type "str") (by rfl) T.b_str (by decide +kernel) rfl) pa_nil))))) (pw_or1 (pt_not (pt_chain op_le op_le pe_int (pe_callB call_len_str (by rfl) T.b_len (by decide +kernel) (pa_cons (pv 0) pa_nil)) (pe_gi T.c_MOST_LETTERS)))))) (pss_one (ps_ret pe_bl)) pss_nil)
    (pss_one (ps_ret (pe_callB (cr_all rfl) (by rfl) T.b_all (by decide +kernel) (pa_cons (pe_lc (own := [("letter", 1)]) rfl sc_is_name.nd (pi_str (pv 0)) (blkOk_by (own := [("letter", 1)]) (N := n_is_name) (sc := defScope s_is_name) (by decide +kernel)) (fun _ _ _ _ _ => (pg_name (i := 1) sc_is_name.nd rfl (Or.inl rfl))) (fun _ _ _ _ _ => pts_nil) (fun _ _ _ _ _ => (pe_cmpR op_in_sign (pv 1) (pe_gs T.c_LETTERS) (by rfl)))) pa_nil))))), ?_⟩
  simp only [n_is_name, L2.start, cxK, cxW, cxK', cxW', is_ss, is_si, is_ii, is_ib, is_is, is_bs, is_ns, is_ni, is_nt, Bool.not_false, Bool.not_true, tSeq, tIfS, tRet, tRetN, tNext, tNever, tAsg, gName, tVar, tC, tOp, tUn, tCons, tNil, tCB, tCall, tTest, tB, tAnd, tOr, tNot, tAndV, tOrV, tNotV, tIf, tChain, rI0, rI, rU, rEq, rNe, List.map_cons, List.map_nil, List.length_cons, List.length_nil, List.replicate, List.cons_append, List.nil_append, List.append_nil, List.getElem?_cons_zero, List.getElem?_cons_succ, List.set_cons_zero, List.set_cons_succ, Option.some.injEq, exists_eq_left', exists_eq_left, exists_eq_right, V.str.injEq, V.int.injEq, V.bl.injEq, V.ref.injEq, V.ty.injEq, List.cons.injEq, and_true, true_and, exists_and_left, Nat.zero_add, Nat.add_sub_cancel, Nat.sub_self, Nat.succ_sub_succ_eq_sub, Nat.reduceSub, Nat.reduceAdd, Nat.sub_zero, tYes, tSl, tPart, tNoPart, if_true, Bool.false_eq_true, if_false, reduceCtorEq, false_and, exists_false, or_false, false_or, scal, tLc_eq, tFor_eq, iStr, iList, iTup, RZ.iZipA]
  refine ⟨small' hx, ?_⟩
  have el := TL.len_tl x
  by_cases h1 : 1 ≤ x.length
  · rw [if_pos (decide_eq_true (by omega))]
    by_cases h8 : x.length ≤ 8
    · rw [if_neg (by simp; omega)]
      refine lcMA (gv := sgV) (goes_strV (small hx)) (fun _ _ => trivial) (fun c => .bl (lowB c)) (fun c hc H1 e Q' q => ?_) (fun D H2 h1' h2 h3 => ?_) (fun o => rfl)
      · simp only [wipe, Bool.not_false, Bool.not_true, tSeq, tIfS, tRet, tRetN, tNext, tNever, tAsg, gName, tVar, tC, tOp, tUn, tCons, tNil, tCB, tCall, tTest, tB, tAnd, tOr, tNot, tAndV, tOrV, tNotV, tIf, tChain, rI0, rI, rU, rEq, rNe, List.map_cons, List.map_nil, List.length_cons, List.length_nil, List.replicate, List.cons_append, List.nil_append, List.append_nil, List.getElem?_cons_zero, List.getElem?_cons_succ, List.set_cons_zero, List.set_cons_succ, Option.some.injEq, exists_eq_left', exists_eq_left, exists_eq_right, V.str.injEq, V.int.injEq, V.bl.injEq, V.ref.injEq, V.ty.injEq, List.cons.injEq, and_true, true_and, exists_and_left, Nat.zero_add, Nat.add_sub_cancel, Nat.sub_self, Nat.succ_sub_succ_eq_sub, Nat.reduceSub, Nat.reduceAdd, Nat.sub_zero, tYes, tSl, tPart, tNoPart, if_true, Bool.false_eq_true, if_false, reduceCtorEq, false_and, exists_false, or_false, false_or, scal, tLc_eq, tFor_eq, iStr, iList, iTup, RZ.iZipA]
        refine ⟨c, rfl, ?_⟩
        rw [letters_low]
        exact q H1 (Ex.refl _)
      · refine ⟨D, (TL.tl x).map lowB, rfl, SqL.of (by rw [List.map_map]; exact h3), ?_⟩
        have e : ((TL.tl x).map lowB).all id = nmB x := by
          rw [List.all_map]
          have e1 : decide (1 ≤ (TL.tl x).length) = true := decide_eq_true (by omega)
          have e2 : decide ((TL.tl x).length ≤ 8) = true := decide_eq_true (by omega)
          show _ = (decide (1 ≤ (TL.tl x).length) && decide ((TL.tl x).length ≤ 8) && (TL.tl x).all lowB)
          rw [e1, e2]
          simp only [Bool.true_and]
          rfl
        rw [e]
        exact hQ H2 h2
    · rw [if_pos (by simp; omega)]
      have e : nmB x = false := by
        have e2 : decide ((TL.tl x).length ≤ 8) = false := decide_eq_false (by omega)
        show (decide (1 ≤ (TL.tl x).length) && decide ((TL.tl x).length ≤ 8) && (TL.tl x).all lowB) = false
        rw [e2, Bool.and_false, Bool.false_and]
      rw [← e]
      exact hQ H (Ex.refl _)
  · rw [if_neg (by simp; omega)]
    have e : nmB x = false := by
      have e2 : decide (1 ≤ (TL.tl x).length) = false := decide_eq_false (by omega)
      show (decide (1 ≤ (TL.tl x).length) && decide ((TL.tl x).length ≤ 8) && (TL.tl x).all lowB) = false
      rw [e2, Bool.false_and, Bool.false_and]
    rw [← e]
    exact hQ H (Ex.refl _)
def isIntV : V → Bool
  | .int _ => true
  | _ => false
def spInteger : Sp := fun vs H Q _ => ∃ v : V, vs = [v] ∧ ((∃ i, v = .int i) ∨ v = .non) ∧ Q (.bl (isIntV v)) H
theorem o_is_integer (T : Tx w K mg d) (F : Fd K mg "is_integer" s_is_integer []) : Ok0 P w K mg base 3 "is_integer" ["value"] spInteger := by
  refine mkOk 2 F sc_is_integer (fun _ _ _ _ _ _ us hl => match us, hl with | [_], _ => rfl) (fun vs H Q E h => by obtain ⟨x, rfl, _⟩ := h; rfl) fun f cdv A outer s H vs Q E hr h => ?_
  obtain ⟨v, rfl, hv, hQ⟩ := h
  refine ⟨_, PSs.nox (pss_one (ps_ret (pe_and (pe_callB call_isV (by rfl) T.b_isinstance (by decide +kernel) (pa_cons (pv 0) (pa_cons (pe_bltn (v := .ty "int") (u := .type "int") (by rfl) T.b_int (by decide +kernel) rfl) pa_nil))) (pe_one (pe_not (pe_callB call_isV (by rfl) T.b_isinstance (by decide +kernel) (pa_cons (pv 0) (pa_cons (pe_bltn (v := .ty "bool") (u := .type "bool") (by rfl) T.b_bool (by decide +kernel) rfl) pa_nil)))))))), ?_⟩
  rcases hv with ⟨i, rfl⟩ | rfl
  · simp only [n_is_integer, L2.start, cxK, cxW, cxK', cxW', is_ss, is_si, is_ii, is_ib, is_is, is_bs, is_ns, is_ni, is_nt, Bool.not_false, Bool.not_true, tSeq, tIfS, tRet, tRetN, tNext, tNever, tAsg, gName, tVar, tC, tOp, tUn, tCons, tNil, tCB, tCall, tTest, tB, tAnd, tOr, tNot, tAndV, tOrV, tNotV, tIf, tChain, rI0, rI, rU, rEq, rNe, List.map_cons, List.map_nil, List.length_cons, List.length_nil, List.replicate, List.cons_append, List.nil_append, List.append_nil, List.getElem?_cons_zero, List.getElem?_cons_succ, List.set_cons_zero, List.set_cons_succ, Option.some.injEq, exists_eq_left', exists_eq_left, exists_eq_right, V.str.injEq, V.int.injEq, V.bl.injEq, V.ref.injEq, V.ty.injEq, List.cons.injEq, and_true, true_and, exists_and_left, Nat.zero_add, Nat.add_sub_cancel, Nat.sub_self, Nat.succ_sub_succ_eq_sub, Nat.reduceSub, Nat.reduceAdd, Nat.sub_zero, tYes, tSl, tPart, tNoPart, if_true, Bool.false_eq_true, if_false, reduceCtorEq, false_and, exists_false, or_false, false_or, scal, tLc_eq, tFor_eq, iStr, iList, iTup, RZ.iZipA]
    exact hQ
  · simp only [n_is_integer, L2.start, cxK, cxW, cxK', cxW', is_ss, is_si, is_ii, is_ib, is_is, is_bs, is_ns, is_ni, is_nt, Bool.not_false, Bool.not_true, tSeq, tIfS, tRet, tRetN, tNext, tNever, tAsg, gName, tVar, tC, tOp, tUn, tCons, tNil, tCB, tCall, tTest, tB, tAnd, tOr, tNot, tAndV, tOrV, tNotV, tIf, tChain, rI0, rI, rU, rEq, rNe, List.map_cons, List.map_nil, List.length_cons, List.length_nil, List.replicate, List.cons_append, List.nil_append, List.append_nil, List.getElem?_cons_zero, List.getElem?_cons_succ, List.set_cons_zero, List.set_cons_succ, Option.some.injEq, exists_eq_left', exists_eq_left, exists_eq_right, V.str.injEq, V.int.injEq, V.bl.injEq, V.ref.injEq, V.ty.injEq, List.cons.injEq, and_true, true_and, exists_and_left, Nat.zero_add, Nat.add_sub_cancel, Nat.sub_self, Nat.succ_sub_succ_eq_sub, Nat.reduceSub, Nat.reduceAdd, Nat.sub_zero, tYes, tSl, tPart, tNoPart, if_true, Bool.false_eq_true, if_false, reduceCtorEq, false_and, exists_false, or_false, false_or, scal, tLc_eq, tFor_eq, iStr, iList, iTup, RZ.iZipA]
    exact hQ
abbrev varL : List V := [.str "a", .str "b", .str "c", .str "d"]
def varB (x : Str) : Bool := inV (.str x) varL
def spVariable : Sp := fun vs H Q _ => ∃ x : Str, vs = [.str x] ∧ Q (.bl (varB x)) H
theorem o_is_variable (T : Tx w K mg d) (F : Fd K mg "is_variable" s_is_variable []) : Ok0 P w K mg base 3 "is_variable" ["value"] spVariable := by
  refine mkOk 2 F sc_is_variable (fun _ _ _ _ _ _ us hl => match us, hl with | [_], _ => rfl) (fun vs H Q E h => by obtain ⟨x, rfl, _⟩ := h; rfl) fun f cdv A outer s H vs Q E hr h => ?_
  obtain ⟨x, rfl, hQ⟩ := h
  refine ⟨_, PSs.nox (pss_one (ps_ret (pe_and (pe_callB call_isV (by rfl) T.b_isinstance (by decide +kernel) (pa_cons (pv 0) (pa_cons (pe_bltn (v := .ty "str") (u := .type "str") (by rfl) T.b_str (by decide +kernel) rfl) pa_nil))) (pe_one (pe_cmpR op_in_seq (pv 0) (pe_gr T.c_VARIABLES) (by rfl)))))), ?_⟩
  simp only [n_is_variable, L2.start, cxK, cxW, cxK', cxW', is_ss, is_si, is_ii, is_ib, is_is, is_bs, is_ns, is_ni, is_nt, Bool.not_false, Bool.not_true, tSeq, tIfS, tRet, tRetN, tNext, tNever, tAsg, gName, tVar, tC, tOp, tUn, tCons, tNil, tCB, tCall, tTest, tB, tAnd, tOr, tNot, tAndV, tOrV, tNotV, tIf, tChain, rI0, rI, rU, rEq, rNe, List.map_cons, List.map_nil, List.length_cons, List.length_nil, List.replicate, List.cons_append, List.nil_append, List.append_nil, List.getElem?_cons_zero, List.getElem?_cons_succ, List.set_cons_zero, List.set_cons_succ, Option.some.injEq, exists_eq_left', exists_eq_left, exists_eq_right, V.str.injEq, V.int.injEq, V.bl.injEq, V.ref.injEq, V.ty.injEq, List.cons.injEq, and_true, true_and, exists_and_left, Nat.zero_add, Nat.add_sub_cancel, Nat.sub_self, Nat.succ_sub_succ_eq_sub, Nat.reduceSub, Nat.reduceAdd, Nat.sub_zero, tYes, tSl, tPart, tNoPart, if_true, Bool.false_eq_true, if_false, reduceCtorEq, false_and, exists_false, or_false, false_or, scal, tLc_eq, tFor_eq, iStr, iList, iTup, RZ.iZipA]
  exact ⟨d.v, varL, rfl, .inr (T.var H), rfl, rfl, hQ⟩
/-! ### an item of a kind -/
def ItOk (k : Str) (v : V) : Prop := if k = "integer" ∨ k = "amount" then (∃ i, v = .int i) ∨ v = .non else ∃ x : Str, v = .str x ∧ x.length ≤ 4000000
def itemB (k : Str) (v : V) : Bool :=
  if k = "variable" then (match v with | .str x => varB x | _ => false)
  else if k = "integer" then isIntV v
  else if k = "amount" then (match v with | .int i => decide (1 ≤ i) | _ => false)
  else (match v with | .str x => nmB x | _ => false)
def spItem : Sp := fun vs H Q _ => ∃ (k : Str) (v : V), vs = [.str k, v] ∧ ItOk k v ∧ ∀ H', Ex H H' → Q (.bl (itemB k v)) H'
theorem o_is_item (T : Tx w K mg d) (F : Fd K mg "is_item" s_is_item []) (o_is_name : Ok0 P w K mg base 3 "is_name" ["value"] spName) (o_is_integer : Ok0 P w K mg base 3 "is_integer" ["value"] spInteger)
    (o_is_variable : Ok0 P w K mg base 3 "is_variable" ["value"] spVariable) : Ok0 P w K mg base 4 "is_item" ["kind", "value"] spItem := by
  refine mkOk 3 F sc_is_item (fun _ _ _ _ _ _ us hl => match us, hl with | [_, _], _ => rfl) (fun vs H Q E h => by obtain ⟨x, y, rfl, _⟩ := h; rfl) fun f cdv A outer s H vs Q E hr h => ?_
  obtain ⟨k, v, rfl, hv, hQ⟩ := h
  refine ⟨_, PSs.nox (pss_one (ps_match (pv 0) (pm_val (pss_one (ps_ret (pe_c o_is_variable (hr.mono (by decide)) pass0 (pa_cons (pv 1) pa_nil)))) (pm_val (pss_one (ps_ret (pe_c o_is_integer (hr.mono (by decide)) pass0 (pa_cons (pv 1) pa_nil)))) (pm_val (pss_one (ps_ret (pe_and (pe_c o_is_integer (hr.mono (by decide)) pass0 (pa_cons (pv 1) pa_nil)) (pe_one (pe_cmpR op_ge (pv 1) pe_int (nomark _)))))) (pm_all (pss_one (ps_ret (pe_c o_is_name (hr.mono (by decide)) pass0 (pa_cons (pv 1) pa_nil)))))))))), ?_⟩
  simp only [tMatch, tmVal, tmAll, n_is_item, L2.start, cxK, cxW, cxK', cxW', is_ss, is_si, is_ii, is_ib, is_is, is_bs, is_ns, is_ni, is_nt, Bool.not_false, Bool.not_true, tSeq, tIfS, tRet, tRetN, tNext, tNever, tAsg, gName, tVar, tC, tOp, tUn, tCons, tNil, tCB, tCall, tTest, tB, tAnd, tOr, tNot, tAndV, tOrV, tNotV, tIf, tChain, rI0, rI, rU, rEq, rNe, List.map_cons, List.map_nil, List.length_cons, List.length_nil, List.replicate, List.cons_append, List.nil_append, List.append_nil, List.getElem?_cons_zero, List.getElem?_cons_succ, List.set_cons_zero, List.set_cons_succ, Option.some.injEq, exists_eq_left', exists_eq_left, exists_eq_right, V.str.injEq, V.int.injEq, V.bl.injEq, V.ref.injEq, V.ty.injEq, List.cons.injEq, and_true, true_and, exists_and_left, Nat.zero_add, Nat.add_sub_cancel, Nat.sub_self, Nat.succ_sub_succ_eq_sub, Nat.reduceSub, Nat.reduceAdd, Nat.sub_zero, tYes, tSl, tPart, tNoPart, if_true, Bool.false_eq_true, if_false, reduceCtorEq, false_and, exists_false, or_false, false_or, scal, tLc_eq, tFor_eq, iStr, iList, iTup, RZ.iZipA]
  have hQ0 := hQ H (Ex.refl _)
  unfold ItOk at hv
  unfold itemB at hQ hQ0
  by_cases k1 : k = "variable"
  · rw [if_pos (decide_eq_true k1)]
    rw [if_neg (by rw [k1]; decide +kernel)] at hv
    obtain ⟨x, rfl, hx⟩ := hv
    rw [if_pos k1] at hQ0
    exact ⟨x, rfl, hQ0⟩
  · rw [if_neg (by simpa using k1)]
    rw [if_neg k1] at hQ0
    by_cases k2 : k = "integer"
    · rw [if_pos (decide_eq_true k2)]
      rw [if_pos (.inl k2)] at hv
      rw [if_pos k2] at hQ0
      exact ⟨v, rfl, hv, hQ0⟩
    · rw [if_neg (by simpa using k2)]
      rw [if_neg k2] at hQ0
      by_cases k3 : k = "amount"
      · rw [if_pos (decide_eq_true k3)]
        rw [if_pos (.inr k3)] at hv
        rw [if_pos k3] at hQ0
        refine ⟨v, rfl, hv, _, rfl, ?_⟩
        rcases hv with ⟨i, rfl⟩ | rfl
        · rw [if_pos (by rfl)]
          exact ⟨i, rfl, hQ0⟩
        · rw [if_neg (by decide)]
          exact hQ0
      · rw [if_neg (by simpa using k3)]
        rw [if_neg (by rintro (h | h) <;> contradiction)] at hv
        obtain ⟨x, rfl, hx⟩ := hv
        refine ⟨x, rfl, hx, fun H' e => ?_⟩
        have q := hQ H' e
        rw [if_neg k1, if_neg k2, if_neg k3] at q
        exact q

end K17

-- text K17P2
set_option maxHeartbeats 8000000
namespace K17
open PySem PySem.Spec PyProof.Rows L2 Evl
variable {P : Program} {w : World} {K : PySem.W.Frag} {mg : Str → Option Value} {base : Heap} {d : Ad}
/-! ## steps: is_step, step_modules, is_wrong, step_text -/
def StOk (wd : Str) (ks : List Str) (rest : List V) : Prop := formK wd = some ks ∧ rest.length = ks.length ∧ ∀ k v, (k, v) ∈ ks.zip rest → ItOk k v
def stepB (ks : List Str) (rest : List V) : Bool := (ks.zip rest).all fun q => itemB q.1 q.2
def spStep : Sp := fun vs H Q _ => (vs = [.non] ∧ Q (.bl false) H) ∨ ∃ (a : Addr) (wd : Str) (ks : List Str) (rest : List V), vs = [.ref a] ∧ H a = some (.tup (.str wd :: rest)) ∧ StOk wd ks rest ∧ ∀ H', Ex H H' → Q (.bl (stepB ks rest)) H'
theorem forms_short : ∀ {wd : Str} {ks : List Str}, formK wd = some ks → ks.length ≤ 3 := by
  intro wd ks h
  have h2 : ∀ q ∈ FORMS, q.2.length ≤ 3 := by decide
  unfold formK at h
  obtain ⟨y, hy, e⟩ : ∃ y, (y, ks) ∈ FORMS ∧ True := by
    clear h2
    revert h
    generalize FORMS = L
    intro h
    induction L with
    | nil => cases h
    | cons p L ih =>
      rw [List.lookup_cons] at h
      split at h
      · cases h
        exact ⟨_, List.mem_cons_self, trivial⟩
      · obtain ⟨y, hy, _⟩ := ih h
        exact ⟨y, List.mem_cons_of_mem _ hy, trivial⟩
  exact h2 _ hy
theorem zip_map_str {ks : List Str} {rest : List V} : (ks.map V.str).zip rest = (ks.zip rest).map fun q => (.str q.1, q.2) := by
  rw [List.zip_map_left]
  rfl
def unS : V → Str
  | .str x => x
  | _ => Str.ofString ""
theorem o_is_step (T : Tx w K mg d) (F : Fd K mg "is_step" s_is_step []) (o_is_item : Ok0 P w K mg base 4 "is_item" ["kind", "value"] spItem) : Ok0 P w K mg base 5 "is_step" ["value"] spStep := by
  refine mkOk 4 F sc_is_step (fun _ _ _ _ _ _ us hl => match us, hl with | [_], _ => rfl) (fun vs H Q E h => by rcases h with ⟨rfl, _⟩ | ⟨a, _, _, _, rfl, _⟩ <;> rfl) fun f cdv A outer s H vs Q E hr h => ?_
  refine ⟨_, PSs.nox (pss_cons (ps_if (PW.pt (pw_or (pt_not (pt_val (pe_callB call_isV (by rfl) T.b_isinstance (by decide +kernel) (pa_cons (pv 0) (pa_cons (pe_bltn (v := .ty "tuple") (u := .type "tuple") (by rfl) T.b_tuple (by decide +kernel) rfl) pa_nil))))) (pw_or (pt_cmpR (op_eqTE hr.units0) (pv 0) (pe_tup pa_nil) (nomark _)) (pw_or (pt_not (pt_val (pe_callB call_isV (by rfl) T.b_isinstance (by decide +kernel) (pa_cons (pe_ix ix_tup (pv 0) pe_int (fun _ _ => rfl)) (pa_cons (pe_bltn (v := .ty "str") (u := .type "str") (by rfl) T.b_str (by decide +kernel) rfl) pa_nil))))) (pw_or1 (pt_cmpR op_notIn_kx (pe_ix ix_tup (pv 0) pe_int (fun _ _ => rfl)) (pe_gr T.c_FORMS) (by rfl))))))) (pss_one (ps_ret pe_bl)) pss_nil)
    (pss_cons (ps_set (i := 1) sc_is_step.nd rfl (.inl rfl) (pe_ix ix_kdict (pe_gr T.c_FORMS) (pe_ix ix_tup (pv 0) pe_int (fun _ _ => rfl)) (fun _ _ => rfl)))
    (pss_cons (ps_if (pt_cmpR op_ne (pe_callB call_len_seq (by rfl) T.b_len (by decide +kernel) (pa_cons (pv 0) pa_nil)) (pe_op op_add (pe_callB call_len_seq (by rfl) T.b_len (by decide +kernel) (pa_cons (pv 1) pa_nil)) pe_int) (nomark _)) (pss_one (ps_ret pe_bl)) pss_nil)
    (pss_one (ps_ret (pe_callB (cr_all rfl) (by rfl) T.b_all (by decide +kernel) (pa_cons (pe_lc (own := [("kind", 2), ("item", 3)]) rfl sc_is_step.nd (RZ.pi_zipA (by rfl) T.b_zip (pa_cons (pv 1) (pa_cons (pe_slice sl_tup (pv 0) (po_some pe_int) po_none) pa_nil))) (blkOk_by (own := [("kind", 2), ("item", 3)]) (N := n_is_step) (sc := defScope s_is_step) (by decide +kernel)) (fun _ _ _ _ _ => (pg_two K (i := 2) (j := 3) sc_is_step.nd rfl rfl (Or.inl rfl) (Or.inl rfl) rfl)) (fun _ _ _ _ _ => pts_nil) (fun _ _ _ _ _ => (pe_c o_is_item (hr.mono (by decide)) pass0 (pa_cons (pv 2) (pa_cons (pv 3) pa_nil))))) pa_nil))))))), ?_⟩
  rcases h with ⟨rfl, hQ⟩ | ⟨a, wd, ks, rest, rfl, ha, ⟨hk, hl, hi⟩, hQ⟩
  · simp only [n_is_step, L2.start, cxK, cxW, cxK', cxW', is_ss, is_si, is_ii, is_ib, is_is, is_bs, is_ns, is_ni, is_nt, Bool.not_false, Bool.not_true, tSeq, tIfS, tRet, tRetN, tNext, tNever, tAsg, gName, tVar, tC, tOp, tUn, tCons, tNil, tCB, tCall, tTest, tB, tAnd, tOr, tNot, tAndV, tOrV, tNotV, tIf, tChain, rI0, rI, rU, rEq, rNe, List.map_cons, List.map_nil, List.length_cons, List.length_nil, List.replicate, List.cons_append, List.nil_append, List.append_nil, List.getElem?_cons_zero, List.getElem?_cons_succ, List.set_cons_zero, List.set_cons_succ, Option.some.injEq, exists_eq_left', exists_eq_left, exists_eq_right, V.str.injEq, V.int.injEq, V.bl.injEq, V.ref.injEq, V.ty.injEq, List.cons.injEq, and_true, true_and, exists_and_left, Nat.zero_add, Nat.add_sub_cancel, Nat.sub_self, Nat.succ_sub_succ_eq_sub, Nat.reduceSub, Nat.reduceAdd, Nat.sub_zero, tYes, tSl, tPart, tNoPart, if_true, Bool.false_eq_true, if_false, reduceCtorEq, false_and, exists_false, or_false, false_or, scal, tLc_eq, tFor_eq, iStr, iList, iTup, RZ.iZipA, decide_false, decide_true, tM1, tM0, tDrop]
    exact hQ
  · obtain ⟨p, hp, hpT⟩ := T.kdct hk
    have hsh := forms_short hk
    simp only [tTup, n_is_step, L2.start, cxK, cxW, cxK', cxW', is_ss, is_si, is_ii, is_ib, is_is, is_bs, is_ns, is_ni, is_nt, Bool.not_false, Bool.not_true, tSeq, tIfS, tRet, tRetN, tNext, tNever, tAsg, gName, tVar, tC, tOp, tUn, tCons, tNil, tCB, tCall, tTest, tB, tAnd, tOr, tNot, tAndV, tOrV, tNotV, tIf, tChain, rI0, rI, rU, rEq, rNe, List.map_cons, List.map_nil, List.length_cons, List.length_nil, List.replicate, List.cons_append, List.nil_append, List.append_nil, List.getElem?_cons_zero, List.getElem?_cons_succ, List.set_cons_zero, List.set_cons_succ, Option.some.injEq, exists_eq_left', exists_eq_left, exists_eq_right, V.str.injEq, V.int.injEq, V.bl.injEq, V.ref.injEq, V.ty.injEq, List.cons.injEq, and_true, true_and, exists_and_left, Nat.zero_add, Nat.add_sub_cancel, Nat.sub_self, Nat.succ_sub_succ_eq_sub, Nat.reduceSub, Nat.reduceAdd, Nat.sub_zero, tYes, tSl, tPart, tNoPart, if_true, Bool.false_eq_true, if_false, reduceCtorEq, false_and, exists_false, or_false, false_or, scal, tLc_eq, tFor_eq, iStr, iList, iTup, RZ.iZipA, decide_false, decide_true, tM1, tM0, tDrop]
    refine is_tt ha ⟨true, rfl, ?_⟩
    try simp only [is_ss, is_si, is_ii, is_ib, is_is, is_bs, is_ns, is_ni, is_nt, Bool.not_false, Bool.not_true, tSeq, tIfS, tRet, tRetN, tNext, tNever, tAsg, gName, tVar, tC, tOp, tUn, tCons, tNil, tCB, tCall, tTest, tB, tAnd, tOr, tNot, tAndV, tOrV, tNotV, tIf, tChain, rI0, rI, rU, rEq, rNe, List.map_cons, List.map_nil, List.length_cons, List.length_nil, List.replicate, List.cons_append, List.nil_append, List.append_nil, List.getElem?_cons_zero, List.getElem?_cons_succ, List.set_cons_zero, List.set_cons_succ, Option.some.injEq, exists_eq_left', exists_eq_left, exists_eq_right, V.str.injEq, V.int.injEq, V.bl.injEq, V.ref.injEq, V.ty.injEq, List.cons.injEq, and_true, true_and, exists_and_left, Nat.zero_add, Nat.add_sub_cancel, Nat.sub_self, Nat.succ_sub_succ_eq_sub, Nat.reduceSub, Nat.reduceAdd, Nat.sub_zero, tYes, tSl, tPart, tNoPart, if_true, Bool.false_eq_true, if_false, reduceCtorEq, false_and, exists_false, or_false, false_or, scal, tLc_eq, tFor_eq, iStr, iList, iTup, RZ.iZipA, decide_false, decide_true, tM1, tM0, tDrop]
    refine ⟨Nat.zero_le _, fun q hq => ?_⟩
    have ha1 : upd H q (.tup []) a = some (.tup (.str wd :: rest)) := by rw [upd_ne (ne_of_none ha hq)]; exact ha
    have e1 : Ex H (upd H q (.tup [])) := Ex.new hq
    refine ⟨a, q, _, rfl, rfl, SqT.of ha1, SqT.of upd_same, false, rfl, ?_⟩
    generalize upd H q (.tup []) = H1 at *
    try simp only [is_ss, is_si, is_ii, is_ib, is_is, is_bs, is_ns, is_ni, is_nt, Bool.not_false, Bool.not_true, tSeq, tIfS, tRet, tRetN, tNext, tNever, tAsg, gName, tVar, tC, tOp, tUn, tCons, tNil, tCB, tCall, tTest, tB, tAnd, tOr, tNot, tAndV, tOrV, tNotV, tIf, tChain, rI0, rI, rU, rEq, rNe, List.map_cons, List.map_nil, List.length_cons, List.length_nil, List.replicate, List.cons_append, List.nil_append, List.append_nil, List.getElem?_cons_zero, List.getElem?_cons_succ, List.set_cons_zero, List.set_cons_succ, Option.some.injEq, exists_eq_left', exists_eq_left, exists_eq_right, V.str.injEq, V.int.injEq, V.bl.injEq, V.ref.injEq, V.ty.injEq, List.cons.injEq, and_true, true_and, exists_and_left, Nat.zero_add, Nat.add_sub_cancel, Nat.sub_self, Nat.succ_sub_succ_eq_sub, Nat.reduceSub, Nat.reduceAdd, Nat.sub_zero, tYes, tSl, tPart, tNoPart, if_true, Bool.false_eq_true, if_false, reduceCtorEq, false_and, exists_false, or_false, false_or, scal, tLc_eq, tFor_eq, iStr, iList, iTup, RZ.iZipA, decide_false, decide_true, tM1, tM0, tDrop]
    refine ixT (SqT.of ha1) at0 ?_
    try simp only [is_ss, is_si, is_ii, is_ib, is_is, is_bs, is_ns, is_ni, is_nt, Bool.not_false, Bool.not_true, tSeq, tIfS, tRet, tRetN, tNext, tNever, tAsg, gName, tVar, tC, tOp, tUn, tCons, tNil, tCB, tCall, tTest, tB, tAnd, tOr, tNot, tAndV, tOrV, tNotV, tIf, tChain, rI0, rI, rU, rEq, rNe, List.map_cons, List.map_nil, List.length_cons, List.length_nil, List.replicate, List.cons_append, List.nil_append, List.append_nil, List.getElem?_cons_zero, List.getElem?_cons_succ, List.set_cons_zero, List.set_cons_succ, Option.some.injEq, exists_eq_left', exists_eq_left, exists_eq_right, V.str.injEq, V.int.injEq, V.bl.injEq, V.ref.injEq, V.ty.injEq, List.cons.injEq, and_true, true_and, exists_and_left, Nat.zero_add, Nat.add_sub_cancel, Nat.sub_self, Nat.succ_sub_succ_eq_sub, Nat.reduceSub, Nat.reduceAdd, Nat.sub_zero, tYes, tSl, tPart, tNoPart, if_true, Bool.false_eq_true, if_false, reduceCtorEq, false_and, exists_false, or_false, false_or, scal, tLc_eq, tFor_eq, iStr, iList, iTup, RZ.iZipA, decide_false, decide_true, tM1, tM0, tDrop]
    refine ixT (SqT.of ha1) at0 ?_
    obtain ⟨es, n, u, hd1, hd2, hd3, hd4⟩ := id hp
    try simp only [is_ss, is_si, is_ii, is_ib, is_is, is_bs, is_ns, is_ni, is_nt, Bool.not_false, Bool.not_true, tSeq, tIfS, tRet, tRetN, tNext, tNever, tAsg, gName, tVar, tC, tOp, tUn, tCons, tNil, tCB, tCall, tTest, tB, tAnd, tOr, tNot, tAndV, tOrV, tNotV, tIf, tChain, rI0, rI, rU, rEq, rNe, List.map_cons, List.map_nil, List.length_cons, List.length_nil, List.replicate, List.cons_append, List.nil_append, List.append_nil, List.getElem?_cons_zero, List.getElem?_cons_succ, List.set_cons_zero, List.set_cons_succ, Option.some.injEq, exists_eq_left', exists_eq_left, exists_eq_right, V.str.injEq, V.int.injEq, V.bl.injEq, V.ref.injEq, V.ty.injEq, List.cons.injEq, and_true, true_and, exists_and_left, Nat.zero_add, Nat.add_sub_cancel, Nat.sub_self, Nat.succ_sub_succ_eq_sub, Nat.reduceSub, Nat.reduceAdd, Nat.sub_zero, tYes, tSl, tPart, tNoPart, if_true, Bool.false_eq_true, if_false, reduceCtorEq, false_and, exists_false, or_false, false_or, scal, tLc_eq, tFor_eq, iStr, iList, iTup, RZ.iZipA, decide_false, decide_true, tM1, tM0, tDrop]
    refine ⟨T.fdic, some u, hd3, ?_⟩
    simp only [Option.isSome_some, is_ss, is_si, is_ii, is_ib, is_is, is_bs, is_ns, is_ni, is_nt, Bool.not_false, Bool.not_true, tSeq, tIfS, tRet, tRetN, tNext, tNever, tAsg, gName, tVar, tC, tOp, tUn, tCons, tNil, tCB, tCall, tTest, tB, tAnd, tOr, tNot, tAndV, tOrV, tNotV, tIf, tChain, rI0, rI, rU, rEq, rNe, List.map_cons, List.map_nil, List.length_cons, List.length_nil, List.replicate, List.cons_append, List.nil_append, List.append_nil, List.getElem?_cons_zero, List.getElem?_cons_succ, List.set_cons_zero, List.set_cons_succ, Option.some.injEq, exists_eq_left', exists_eq_left, exists_eq_right, V.str.injEq, V.int.injEq, V.bl.injEq, V.ref.injEq, V.ty.injEq, List.cons.injEq, and_true, true_and, exists_and_left, Nat.zero_add, Nat.add_sub_cancel, Nat.sub_self, Nat.succ_sub_succ_eq_sub, Nat.reduceSub, Nat.reduceAdd, Nat.sub_zero, tYes, tSl, tPart, tNoPart, if_true, Bool.false_eq_true, if_false, reduceCtorEq, false_and, exists_false, or_false, false_or, scal, tLc_eq, tFor_eq, iStr, iList, iTup, RZ.iZipA, decide_false, decide_true, tM1, tM0, tDrop]
    refine ixT (SqT.of ha1) at0 (ixD hp ?_)
    try simp only [is_ss, is_si, is_ii, is_ib, is_is, is_bs, is_ns, is_ni, is_nt, Bool.not_false, Bool.not_true, tSeq, tIfS, tRet, tRetN, tNext, tNever, tAsg, gName, tVar, tC, tOp, tUn, tCons, tNil, tCB, tCall, tTest, tB, tAnd, tOr, tNot, tAndV, tOrV, tNotV, tIf, tChain, rI0, rI, rU, rEq, rNe, List.map_cons, List.map_nil, List.length_cons, List.length_nil, List.replicate, List.cons_append, List.nil_append, List.append_nil, List.getElem?_cons_zero, List.getElem?_cons_succ, List.set_cons_zero, List.set_cons_succ, Option.some.injEq, exists_eq_left', exists_eq_left, exists_eq_right, V.str.injEq, V.int.injEq, V.bl.injEq, V.ref.injEq, V.ty.injEq, List.cons.injEq, and_true, true_and, exists_and_left, Nat.zero_add, Nat.add_sub_cancel, Nat.sub_self, Nat.succ_sub_succ_eq_sub, Nat.reduceSub, Nat.reduceAdd, Nat.sub_zero, tYes, tSl, tPart, tNoPart, if_true, Bool.false_eq_true, if_false, reduceCtorEq, false_and, exists_false, or_false, false_or, scal, tLc_eq, tFor_eq, iStr, iList, iTup, RZ.iZipA, decide_false, decide_true, tM1, tM0, tDrop]
    refine ⟨_, .inr (SqT.of ha1), _, .inr (hpT H1), ?_⟩
    rw [if_neg (by simp [hl])]
    refine slT1 (SqT.of ha1) fun p2 H2 hp2 e2 h2 => ?_
    refine ⟨p, p2, ⟨rfl, rfl⟩, ks.map V.str, rest, .inr ⟨hpT H2, SqT.of h2, ?_⟩⟩
    have hlk : (ks.map V.str).length = rest.length := by rw [List.length_map, hl]
    refine lcZ (xs := ks.map V.str) (ys := rest) (goes_zipT (small (by rw [List.length_map]; omega))) (fun H' e => ⟨hpT H', exT e (SqT.of h2), hlk⟩) hlk (fun _ _ => true) (fun k v => .bl (itemB (unS k) v)) (fun _ _ _ => et_yes) (fun x y hxy _ H3 e3 Q' q' => ?_) (fun D H3 h1' h2' h3 => ?_) (fun _ _ => rfl)
    · rw [zip_map_str] at hxy
      obtain ⟨⟨k, v⟩, hm, he⟩ := List.mem_map.mp hxy
      cases he
      simp only [wipe, is_ss, is_si, is_ii, is_ib, is_is, is_bs, is_ns, is_ni, is_nt, Bool.not_false, Bool.not_true, tSeq, tIfS, tRet, tRetN, tNext, tNever, tAsg, gName, tVar, tC, tOp, tUn, tCons, tNil, tCB, tCall, tTest, tB, tAnd, tOr, tNot, tAndV, tOrV, tNotV, tIf, tChain, rI0, rI, rU, rEq, rNe, List.map_cons, List.map_nil, List.length_cons, List.length_nil, List.replicate, List.cons_append, List.nil_append, List.append_nil, List.getElem?_cons_zero, List.getElem?_cons_succ, List.set_cons_zero, List.set_cons_succ, Option.some.injEq, exists_eq_left', exists_eq_left, exists_eq_right, V.str.injEq, V.int.injEq, V.bl.injEq, V.ref.injEq, V.ty.injEq, List.cons.injEq, and_true, true_and, exists_and_left, Nat.zero_add, Nat.add_sub_cancel, Nat.sub_self, Nat.succ_sub_succ_eq_sub, Nat.reduceSub, Nat.reduceAdd, Nat.sub_zero, tYes, tSl, tPart, tNoPart, if_true, Bool.false_eq_true, if_false, reduceCtorEq, false_and, exists_false, or_false, false_or, scal, tLc_eq, tFor_eq, iStr, iList, iTup, RZ.iZipA, decide_false, decide_true, tM1, tM0, tDrop]
      exact ⟨k, v, rfl, hi k v hm, fun H' e => q' H' e⟩
    · rw [zip_map_str] at h3
      have e4 : H3 D = some (.lst (((ks.zip rest).map fun q => itemB q.1 q.2).map V.bl)) := by
        rw [h3, List.filter_eq_self.mpr (fun _ _ => rfl), List.map_map, List.map_map]
        rfl
      refine allQ e4 ?_
      have e5 : ((ks.zip rest).map fun q => itemB q.1 q.2).all id = stepB ks rest := by
        rw [List.all_map]
        rfl
      rw [e5]
      exact hQ H3 ((e1.trans e2).trans h2')
def modsV (ks : List Str) (rest : List V) : List V := ((ks.zip rest).filter fun q => decide (q.1 = Str.ofString "module")).map (·.2)
def spMods : Sp := fun vs H Q _ => ∃ (a : Addr) (wd : Str) (ks : List Str) (rest : List V), vs = [.ref a] ∧ H a = some (.tup (.str wd :: rest)) ∧ StOk wd ks rest ∧ ∀ p H', H p = none → Ex H H' → H' p = some (.lst (modsV ks rest)) → Q (.ref p) H'
theorem o_step_modules (T : Tx w K mg d) (F : Fd K mg "step_modules" s_step_modules []) : Ok0 P w K mg base 3 "step_modules" ["step"] spMods := by
  refine mkOk 2 F sc_step_modules (fun _ _ _ _ _ _ us hl => match us, hl with | [_], _ => rfl) (fun vs H Q E h => by obtain ⟨a, _, _, _, rfl, _⟩ := h; rfl) fun f cdv A outer s H vs Q E hr h => ?_
  refine ⟨_, PSs.nox (pss_one (ps_ret (pe_lc (own := [("kind", 1), ("item", 2)]) rfl sc_step_modules.nd (RZ.pi_zipA (by rfl) T.b_zip (pa_cons (pe_ix ix_kdict (pe_gr T.c_FORMS) (pe_ix ix_tup (pv 0) pe_int (fun _ _ => rfl)) (fun _ _ => rfl)) (pa_cons (pe_slice sl_tup (pv 0) (po_some pe_int) po_none) pa_nil))) (blkOk_by (own := [("kind", 1), ("item", 2)]) (N := n_step_modules) (sc := defScope s_step_modules) (by decide +kernel)) (fun _ _ _ _ _ => (pg_two K (i := 1) (j := 2) sc_step_modules.nd rfl rfl (Or.inl rfl) (Or.inl rfl) rfl)) (fun _ _ _ _ _ => (pts_one (pt_cmpR op_eq (pv 1) pe_str (nomark _)))) (fun _ _ _ _ _ => (pv 2))))), ?_⟩
  obtain ⟨a, wd, ks, rest, rfl, ha, ⟨hk, hl, hi⟩, hQ⟩ := h
  obtain ⟨p, hp, hpT⟩ := T.kdct hk
  have hsh := forms_short hk
  try simp only [n_step_modules, L2.start, cxK, cxW, cxK', cxW', is_ss, is_si, is_ii, is_ib, is_is, is_bs, is_ns, is_ni, is_nt, Bool.not_false, Bool.not_true, tSeq, tIfS, tRet, tRetN, tNext, tNever, tAsg, gName, tVar, tC, tOp, tUn, tCons, tNil, tCB, tCall, tTest, tB, tAnd, tOr, tNot, tAndV, tOrV, tNotV, tIf, tChain, rI0, rI, rU, rEq, rNe, List.map_cons, List.map_nil, List.length_cons, List.length_nil, List.replicate, List.cons_append, List.nil_append, List.append_nil, List.getElem?_cons_zero, List.getElem?_cons_succ, List.set_cons_zero, List.set_cons_succ, Option.some.injEq, exists_eq_left', exists_eq_left, exists_eq_right, V.str.injEq, V.int.injEq, V.bl.injEq, V.ref.injEq, V.ty.injEq, List.cons.injEq, and_true, true_and, exists_and_left, Nat.zero_add, Nat.add_sub_cancel, Nat.sub_self, Nat.succ_sub_succ_eq_sub, Nat.reduceSub, Nat.reduceAdd, Nat.sub_zero, tYes, tSl, tPart, tNoPart, if_true, Bool.false_eq_true, if_false, reduceCtorEq, false_and, exists_false, or_false, false_or, scal, tLc_eq, tFor_eq, iStr, iList, iTup, RZ.iZipA, decide_false, decide_true, tM1, tM0, tDrop]
  refine ixT (SqT.of ha) at0 (ixD hp ?_)
  refine slT1 (SqT.of ha) fun p2 H2 hp2 e2 h2 => ?_
  refine ⟨p, p2, ⟨rfl, rfl⟩, ks.map V.str, rest, .inr ⟨hpT H2, SqT.of h2, ?_⟩⟩
  have hlk : (ks.map V.str).length = rest.length := by rw [List.length_map, hl]
  refine lcZ (xs := ks.map V.str) (ys := rest) (goes_zipT (small (by rw [List.length_map]; omega))) (fun H' e => ⟨hpT H', exT e (SqT.of h2), hlk⟩) hlk (fun k v => decide (k = .str "module")) (fun k v => v) (fun x y hxy H3 e3 Q' q' => ?_) (fun x y hxy _ H3 e3 Q' q' => ?_) (fun D H3 h1' h2' h3 => ?_) (fun _ _ => rfl)
  · rw [zip_map_str] at hxy
    obtain ⟨⟨k, v⟩, hm, he⟩ := List.mem_map.mp hxy
    cases he
    try simp only [wipe, is_ss, is_si, is_ii, is_ib, is_is, is_bs, is_ns, is_ni, is_nt, Bool.not_false, Bool.not_true, tSeq, tIfS, tRet, tRetN, tNext, tNever, tAsg, gName, tVar, tC, tOp, tUn, tCons, tNil, tCB, tCall, tTest, tB, tAnd, tOr, tNot, tAndV, tOrV, tNotV, tIf, tChain, rI0, rI, rU, rEq, rNe, List.map_cons, List.map_nil, List.length_cons, List.length_nil, List.replicate, List.cons_append, List.nil_append, List.append_nil, List.getElem?_cons_zero, List.getElem?_cons_succ, List.set_cons_zero, List.set_cons_succ, Option.some.injEq, exists_eq_left', exists_eq_left, exists_eq_right, V.str.injEq, V.int.injEq, V.bl.injEq, V.ref.injEq, V.ty.injEq, List.cons.injEq, and_true, true_and, exists_and_left, Nat.zero_add, Nat.add_sub_cancel, Nat.sub_self, Nat.succ_sub_succ_eq_sub, Nat.reduceSub, Nat.reduceAdd, Nat.sub_zero, tYes, tSl, tPart, tNoPart, if_true, Bool.false_eq_true, if_false, reduceCtorEq, false_and, exists_false, or_false, false_or, scal, tLc_eq, tFor_eq, iStr, iList, iTup, RZ.iZipA, decide_false, decide_true, tM1, tM0, tDrop]
    have q2 := q' H3 (Ex.refl _)
    try simp only [is_ss, is_si, is_ii, is_ib, is_is, is_bs, is_ns, is_ni, is_nt, Bool.not_false, Bool.not_true, tSeq, tIfS, tRet, tRetN, tNext, tNever, tAsg, gName, tVar, tC, tOp, tUn, tCons, tNil, tCB, tCall, tTest, tB, tAnd, tOr, tNot, tAndV, tOrV, tNotV, tIf, tChain, rI0, rI, rU, rEq, rNe, List.map_cons, List.map_nil, List.length_cons, List.length_nil, List.replicate, List.cons_append, List.nil_append, List.append_nil, List.getElem?_cons_zero, List.getElem?_cons_succ, List.set_cons_zero, List.set_cons_succ, Option.some.injEq, exists_eq_left', exists_eq_left, exists_eq_right, V.str.injEq, V.int.injEq, V.bl.injEq, V.ref.injEq, V.ty.injEq, List.cons.injEq, and_true, true_and, exists_and_left, Nat.zero_add, Nat.add_sub_cancel, Nat.sub_self, Nat.succ_sub_succ_eq_sub, Nat.reduceSub, Nat.reduceAdd, Nat.sub_zero, tYes, tSl, tPart, tNoPart, if_true, Bool.false_eq_true, if_false, reduceCtorEq, false_and, exists_false, or_false, false_or, scal, tLc_eq, tFor_eq, iStr, iList, iTup, RZ.iZipA, decide_false, decide_true, tM1, tM0, tDrop] at q2
    exact q2
  · rw [zip_map_str] at hxy
    obtain ⟨⟨k, v⟩, hm, he⟩ := List.mem_map.mp hxy
    cases he
    try simp only [wipe, is_ss, is_si, is_ii, is_ib, is_is, is_bs, is_ns, is_ni, is_nt, Bool.not_false, Bool.not_true, tSeq, tIfS, tRet, tRetN, tNext, tNever, tAsg, gName, tVar, tC, tOp, tUn, tCons, tNil, tCB, tCall, tTest, tB, tAnd, tOr, tNot, tAndV, tOrV, tNotV, tIf, tChain, rI0, rI, rU, rEq, rNe, List.map_cons, List.map_nil, List.length_cons, List.length_nil, List.replicate, List.cons_append, List.nil_append, List.append_nil, List.getElem?_cons_zero, List.getElem?_cons_succ, List.set_cons_zero, List.set_cons_succ, Option.some.injEq, exists_eq_left', exists_eq_left, exists_eq_right, V.str.injEq, V.int.injEq, V.bl.injEq, V.ref.injEq, V.ty.injEq, List.cons.injEq, and_true, true_and, exists_and_left, Nat.zero_add, Nat.add_sub_cancel, Nat.sub_self, Nat.succ_sub_succ_eq_sub, Nat.reduceSub, Nat.reduceAdd, Nat.sub_zero, tYes, tSl, tPart, tNoPart, if_true, Bool.false_eq_true, if_false, reduceCtorEq, false_and, exists_false, or_false, false_or, scal, tLc_eq, tFor_eq, iStr, iList, iTup, RZ.iZipA, decide_false, decide_true, tM1, tM0, tDrop]
    exact q' H3 (Ex.refl _)
  · rw [zip_map_str] at h3
    refine hQ D H3 (fresh_back e2 h1') (e2.trans h2') ?_
    rw [h3, List.filter_map, List.map_map]
    have e5 : ((fun q : V × V => decide (q.1 = V.str (Str.ofString "module"))) ∘ fun q : Str × V => (V.str q.1, q.2)) = fun q => decide (q.1 = Str.ofString "module") := by
      funext q
      simp
    rw [e5]
    rfl
theorem mods_str {wd : Str} {ks : List Str} {rest : List V} (h : StOk wd ks rest) : ∀ m ∈ modsV ks rest, ∃ x : Str, m = .str x ∧ x.length ≤ 4000000 := by
  intro m hm
  obtain ⟨⟨k, v⟩, hq, rfl⟩ := List.mem_map.mp hm
  obtain ⟨h1, h2⟩ := List.mem_filter.mp hq
  have e : k = Str.ofString "module" := of_decide_eq_true h2
  have q := h.2.2 k v h1
  unfold ItOk at q
  rw [if_neg (by rw [e]; decide +kernel)] at q
  exact q
def skipB (wd : Str) (rest : List V) (after : Int) : Bool := match rest with
  | [_, .int n] => decide (wd = Str.ofString "skip") && decide (after < n)
  | _ => false
def wrongB (wd : Str) (ks : List Str) (rest : List V) (after : Int) (names : List Str) : Bool := skipB wd rest after || !((modsV ks rest).all fun m => inV m (names.map V.str))
def GoodSt (H : Hp) (a : Addr) (wd : Str) (ks : List Str) (rest : List V) : Prop := H a = some (.tup (.str wd :: rest)) ∧ StOk wd ks rest ∧ stepB ks rest = true
def spWrong (K : PySem.W.Frag) : Sp := fun vs H Q _ => ∃ (st : V) (after : Int) (kn : Addr) (names : List Str), vs = [st, .int after, .bl false, .ref kn] ∧ SqL K H kn (names.map V.str) ∧
  ((st = .non ∧ ∀ H', Ex H H' → Q (.bl true) H') ∨ ∃ (a : Addr) (wd : Str) (ks : List Str) (rest : List V), st = .ref a ∧ GoodSt H a wd ks rest ∧ ∀ H', Ex H H' → Q (.bl (wrongB wd ks rest after names)) H')
theorem flat_strs (names : List Str) : (names.map V.str).all flatV = true := by
  rw [List.all_map]
  exact List.all_eq_true.mpr fun _ _ => rfl
theorem skip_form {ks : List Str} {rest : List V} (h : StOk "skip" ks rest) (hb : stepB ks rest = true) : ∃ v n, rest = [v, .int n] := by
  obtain ⟨hk, hl, hi⟩ := h
  have e : ks = [Str.ofString "variable", Str.ofString "amount"] := by
    have e2 : formK "skip" = some [Str.ofString "variable", Str.ofString "amount"] := by decide +kernel
    rw [e2] at hk
    exact (Option.some.inj hk).symm
  subst e
  match rest, hl with
  | [v, u], _ =>
    have h2 : itemB "amount" u = true := by
      have := List.all_eq_true.mp hb (Str.ofString "amount", u) (by simp)
      exact this
    cases u with
    | int n => exact ⟨v, n, rfl⟩
    | _ => exact absurd (show false = true from h2) (by decide)
theorem o_is_wrong (T : Tx w K mg d) (F : Fd K mg "is_wrong" s_is_wrong []) (o_is_step : Ok0 P w K mg base 5 "is_step" ["value"] spStep) (o_step_modules : Ok0 P w K mg base 3 "step_modules" ["step"] spMods) :
    Ok0 P w K mg base 6 "is_wrong" ["step", "after", "is_main", "known"] (spWrong K) := by
  refine mkOk 5 F sc_is_wrong (fun _ _ _ _ _ _ us hl => match us, hl with | [_, _, _, _], _ => rfl) (fun vs H Q E h => by obtain ⟨_, _, _, _, rfl, _⟩ := h; rfl) fun f cdv A outer s H vs Q E hr h => ?_
  refine ⟨_, PSs.nox (pss_cons (ps_if (PW.pt (pw_or (pt_not (pt_val (pe_c o_is_step (hr.mono (by decide)) pass0 (pa_cons (pv 0) pa_nil)))) (pw_or1 (PW.pt (pw_and (pt_cmpR op_eq (pe_ix ix_tup (pv 0) pe_int (fun _ _ => rfl)) pe_str (nomark _)) (pw_and1 (pt_cmpR op_gt (pe_ix ix_tup (pv 0) pe_int (fun _ _ => rfl)) (pv 1) (nomark _)))))))) (pss_one (ps_ret pe_bl)) pss_nil)
    (pss_cons (ps_if (PW.pt (pw_and (pt_val (pv 2)) (pw_and1 (pt_cmpR op_eq (pe_ix ix_tup (pv 0) pe_int (fun _ _ => rfl)) pe_str (nomark _))))) (pss_one (ps_ret pe_bl)) pss_nil)
    (pss_one (ps_ret (pe_and (pe_cmpR op_notN (pv 3) pe_non (nomark _)) (pe_one (pe_not (pe_callB (cr_all rfl) (by rfl) T.b_all (by decide +kernel) (pa_cons (pe_lc (own := [("module", 4)]) rfl sc_is_wrong.nd (pi_list (pe_c o_step_modules (hr.mono (by decide)) pass0 (pa_cons (pv 0) pa_nil))) (blkOk_by (own := [("module", 4)]) (N := n_is_wrong) (sc := defScope s_is_wrong) (by decide +kernel)) (fun _ _ _ _ _ => (pg_name (i := 4) sc_is_wrong.nd rfl (Or.inl rfl))) (fun _ _ _ _ _ => pts_nil) (fun _ _ _ _ _ => (pe_cmpR (op_in_seqB K) (pv 4) (pv 3) (by rfl)))) pa_nil))))))))), ?_⟩
  obtain ⟨st, after, kn, names, rfl, hkn, h⟩ := h
  try simp only [n_is_wrong, L2.start, cxK, cxW, cxK', cxW', is_ss, is_si, is_ii, is_ib, is_is, is_bs, is_ns, is_ni, is_nt, Bool.not_false, Bool.not_true, tSeq, tIfS, tRet, tRetN, tNext, tNever, tAsg, gName, tVar, tC, tOp, tUn, tCons, tNil, tCB, tCall, tTest, tB, tAnd, tOr, tNot, tAndV, tOrV, tNotV, tIf, tChain, rI0, rI, rU, rEq, rNe, List.map_cons, List.map_nil, List.length_cons, List.length_nil, List.replicate, List.cons_append, List.nil_append, List.append_nil, List.getElem?_cons_zero, List.getElem?_cons_succ, List.set_cons_zero, List.set_cons_succ, Option.some.injEq, exists_eq_left', exists_eq_left, exists_eq_right, V.str.injEq, V.int.injEq, V.bl.injEq, V.ref.injEq, V.ty.injEq, List.cons.injEq, and_true, true_and, exists_and_left, Nat.zero_add, Nat.add_sub_cancel, Nat.sub_self, Nat.succ_sub_succ_eq_sub, Nat.reduceSub, Nat.reduceAdd, Nat.sub_zero, tYes, tSl, tPart, tNoPart, if_true, Bool.false_eq_true, if_false, reduceCtorEq, false_and, exists_false, or_false, false_or, scal, tLc_eq, tFor_eq, iStr, iList, iTup, RZ.iZipA, decide_false, decide_true, tM1, tM0, tDrop]
  rcases h with ⟨rfl, hQ⟩ | ⟨a, wd, ks, rest, rfl, ⟨ha, hst, hb⟩, hQ⟩
  · refine .inl ⟨rfl, ?_⟩
    try simp only [is_ss, is_si, is_ii, is_ib, is_is, is_bs, is_ns, is_ni, is_nt, Bool.not_false, Bool.not_true, tSeq, tIfS, tRet, tRetN, tNext, tNever, tAsg, gName, tVar, tC, tOp, tUn, tCons, tNil, tCB, tCall, tTest, tB, tAnd, tOr, tNot, tAndV, tOrV, tNotV, tIf, tChain, rI0, rI, rU, rEq, rNe, List.map_cons, List.map_nil, List.length_cons, List.length_nil, List.replicate, List.cons_append, List.nil_append, List.append_nil, List.getElem?_cons_zero, List.getElem?_cons_succ, List.set_cons_zero, List.set_cons_succ, Option.some.injEq, exists_eq_left', exists_eq_left, exists_eq_right, V.str.injEq, V.int.injEq, V.bl.injEq, V.ref.injEq, V.ty.injEq, List.cons.injEq, and_true, true_and, exists_and_left, Nat.zero_add, Nat.add_sub_cancel, Nat.sub_self, Nat.succ_sub_succ_eq_sub, Nat.reduceSub, Nat.reduceAdd, Nat.sub_zero, tYes, tSl, tPart, tNoPart, if_true, Bool.false_eq_true, if_false, reduceCtorEq, false_and, exists_false, or_false, false_or, scal, tLc_eq, tFor_eq, iStr, iList, iTup, RZ.iZipA, decide_false, decide_true, tM1, tM0, tDrop]
    exact hQ H (Ex.refl _)
  · refine .inr ⟨a, wd, ks, rest, rfl, ha, hst, fun H1 e1 => ?_⟩
    rw [hb]
    try simp only [is_ss, is_si, is_ii, is_ib, is_is, is_bs, is_ns, is_ni, is_nt, Bool.not_false, Bool.not_true, tSeq, tIfS, tRet, tRetN, tNext, tNever, tAsg, gName, tVar, tC, tOp, tUn, tCons, tNil, tCB, tCall, tTest, tB, tAnd, tOr, tNot, tAndV, tOrV, tNotV, tIf, tChain, rI0, rI, rU, rEq, rNe, List.map_cons, List.map_nil, List.length_cons, List.length_nil, List.replicate, List.cons_append, List.nil_append, List.append_nil, List.getElem?_cons_zero, List.getElem?_cons_succ, List.set_cons_zero, List.set_cons_succ, Option.some.injEq, exists_eq_left', exists_eq_left, exists_eq_right, V.str.injEq, V.int.injEq, V.bl.injEq, V.ref.injEq, V.ty.injEq, List.cons.injEq, and_true, true_and, exists_and_left, Nat.zero_add, Nat.add_sub_cancel, Nat.sub_self, Nat.succ_sub_succ_eq_sub, Nat.reduceSub, Nat.reduceAdd, Nat.sub_zero, tYes, tSl, tPart, tNoPart, if_true, Bool.false_eq_true, if_false, reduceCtorEq, false_and, exists_false, or_false, false_or, scal, tLc_eq, tFor_eq, iStr, iList, iTup, RZ.iZipA, decide_false, decide_true, tM1, tM0, tDrop]
    have ha1 := e1 a _ ha
    refine ixT (SqT.of ha1) at0 ?_
    try simp only [is_ss, is_si, is_ii, is_ib, is_is, is_bs, is_ns, is_ni, is_nt, Bool.not_false, Bool.not_true, tSeq, tIfS, tRet, tRetN, tNext, tNever, tAsg, gName, tVar, tC, tOp, tUn, tCons, tNil, tCB, tCall, tTest, tB, tAnd, tOr, tNot, tAndV, tOrV, tNotV, tIf, tChain, rI0, rI, rU, rEq, rNe, List.map_cons, List.map_nil, List.length_cons, List.length_nil, List.replicate, List.cons_append, List.nil_append, List.append_nil, List.getElem?_cons_zero, List.getElem?_cons_succ, List.set_cons_zero, List.set_cons_succ, Option.some.injEq, exists_eq_left', exists_eq_left, exists_eq_right, V.str.injEq, V.int.injEq, V.bl.injEq, V.ref.injEq, V.ty.injEq, List.cons.injEq, and_true, true_and, exists_and_left, Nat.zero_add, Nat.add_sub_cancel, Nat.sub_self, Nat.succ_sub_succ_eq_sub, Nat.reduceSub, Nat.reduceAdd, Nat.sub_zero, tYes, tSl, tPart, tNoPart, if_true, Bool.false_eq_true, if_false, reduceCtorEq, false_and, exists_false, or_false, false_or, scal, tLc_eq, tFor_eq, iStr, iList, iTup, RZ.iZipA, decide_false, decide_true, tM1, tM0, tDrop]
    have tail : skipB wd rest after = false → spMods [V.ref a] H1 (fun x H1 => ∃ a_1, x = V.ref a_1 ∧ (∃ xs, SqL K H1 a_1 xs) ∧ LcW (Itl K a_1) (gName 4) tYes (tOp (rIn K false) (tVar 4) (tVar 3)) [4]
        [some (V.ref a), some (V.int after), some (V.bl false), some (V.ref kn), none] H1 fun x H1 => rAll K [x] H1 fun x H1 => ∃ c, x = V.bl c ∧ Q (V.bl !c) H1) E0 := by
      intro hs
      refine ⟨a, wd, ks, rest, rfl, ha1, hst, fun p H2 hp e2 h2 => ⟨p, rfl, ⟨_, SqL.of h2⟩, ?_⟩⟩
      have hlen : (modsV ks rest).length < sizeLine := by
        have h3 := forms_short hst.1
        have h4 : (modsV ks rest).length ≤ (ks.zip rest).length := by
          unfold modsV
          rw [List.length_map]
          exact List.length_filter_le _ _
        rw [List.length_zip] at h4
        exact small (by omega)
      refine lcA (goes_list hlen) (fun H' e => ex_l e (SqL.of h2)) (fun m => .bl (inV m (names.map V.str))) (fun m hm H3 e3 Q' q' => ?_) (fun D H3 h1' h2' h3 => ?_) (fun _ => rfl)
      · obtain ⟨x, rfl, _⟩ := mods_str hst m hm
        try simp only [wipe, is_ss, is_si, is_ii, is_ib, is_is, is_bs, is_ns, is_ni, is_nt, Bool.not_false, Bool.not_true, tSeq, tIfS, tRet, tRetN, tNext, tNever, tAsg, gName, tVar, tC, tOp, tUn, tCons, tNil, tCB, tCall, tTest, tB, tAnd, tOr, tNot, tAndV, tOrV, tNotV, tIf, tChain, rI0, rI, rU, rEq, rNe, List.map_cons, List.map_nil, List.length_cons, List.length_nil, List.replicate, List.cons_append, List.nil_append, List.append_nil, List.getElem?_cons_zero, List.getElem?_cons_succ, List.set_cons_zero, List.set_cons_succ, Option.some.injEq, exists_eq_left', exists_eq_left, exists_eq_right, V.str.injEq, V.int.injEq, V.bl.injEq, V.ref.injEq, V.ty.injEq, List.cons.injEq, and_true, true_and, exists_and_left, Nat.zero_add, Nat.add_sub_cancel, Nat.sub_self, Nat.succ_sub_succ_eq_sub, Nat.reduceSub, Nat.reduceAdd, Nat.sub_zero, tYes, tSl, tPart, tNoPart, if_true, Bool.false_eq_true, if_false, reduceCtorEq, false_and, exists_false, or_false, false_or, scal, tLc_eq, tFor_eq, iStr, iList, iTup, RZ.iZipA, decide_false, decide_true, tM1, tM0, tDrop]
        exact inQ (.inl (ex_l ((e1.trans e2).trans e3) hkn)) rfl (flat_strs names) (q' H3 (Ex.refl _))
      · refine allQ (bs := (modsV ks rest).map fun m => inV m (names.map V.str)) (by rw [h3, List.map_map]; rfl) ⟨_, rfl, ?_⟩
        have q := hQ H3 ((e1.trans e2).trans h2')
        unfold wrongB at q
        rw [hs, Bool.false_or] at q
        rw [List.all_map]
        exact q
    by_cases hw : wd = Str.ofString "skip"
    · rw [if_pos (decide_eq_true hw)]
      subst hw
      obtain ⟨v, n, rfl⟩ := skip_form hst hb
      refine ixT (i := 2) (v := .int n) (SqT.of ha1) rfl ⟨n, rfl, ?_⟩
      by_cases hn : after < n
      · rw [if_pos (decide_eq_true hn)]
        have q := hQ H1 e1
        have e5 : wrongB (Str.ofString "skip") ks [v, .int n] after names = true := by
          unfold wrongB skipB
          simp [hn]
        rw [e5] at q
        exact q
      · rw [if_neg (by simpa using hn)]
        exact tail (by simp [skipB, hn])
    · rw [if_neg (by simpa using hw)]
      refine tail ?_
      unfold skipB
      split
      · simp [hw]
      · rfl
/-! ### a step's text -/
def showV : V → Str
  | .str x => x
  | .int i => toString i
  | _ => Str.ofString ""
def Shown (v : V) : Prop := (∃ x, v = .str x) ∨ ∃ i : Int, v = .int i ∧ i.natAbs.log2 < 1920
def spText : Sp := fun vs H Q _ => ∃ (a : Addr) (wd : Str) (ks : List Str) (rest : List V), vs = [.ref a] ∧ GoodSt H a wd ks rest ∧ (∀ v ∈ rest, Shown v) ∧
  ((((.str wd :: rest).map showV).map (·.length)).sum + (rest.length + 1) ≤ 16777216) ∧ ∀ H', Ex H H' → Q (.str (Txt.join " " ((.str wd :: rest).map showV))) H'
theorem o_step_text (T : Tx w K mg d) (F : Fd K mg "step_text" s_step_text []) (o_is_step : Ok0 P w K mg base 5 "is_step" ["value"] spStep) : Ok0 P w K mg base 6 "step_text" ["step"] spText := by
  refine mkOk 5 F sc_step_text (fun _ _ _ _ _ _ us hl => match us, hl with | [_], _ => rfl) (fun vs H Q E h => by obtain ⟨_, _, _, _, rfl, _⟩ := h; rfl) fun f cdv A outer s H vs Q E hr h => ?_
  refine ⟨_, PSs.nox (pss_cons (ps_if (pt_not (pt_val (pe_c o_is_step (hr.mono (by decide)) pass0 (pa_cons (pv 0) pa_nil)))) (pss_one ps_never) pss_nil)
    (pss_one (ps_ret (pe_join pe_str (pe_lc (own := [("item", 1)]) rfl sc_step_text.nd (pi_tup (pv 0)) (blkOk_by (own := [("item", 1)]) (N := n_step_text) (sc := defScope s_step_text) (by decide +kernel)) (fun _ _ _ _ _ => (pg_name (i := 1) sc_step_text.nd rfl (Or.inl rfl))) (fun _ _ _ _ _ => pts_nil) (fun _ _ _ _ _ => (pe_callTy (CallR.or call_str_int SkE.call_str_str) (by rfl) T.b_str (by decide +kernel) (pa_cons (pv 1) pa_nil)))))))), ?_⟩
  obtain ⟨a, wd, ks, rest, rfl, ⟨ha, hst, hb⟩, hsh, hz, hQ⟩ := h
  try simp only [n_step_text, L2.start, cxK, cxW, cxK', cxW', is_ss, is_si, is_ii, is_ib, is_is, is_bs, is_ns, is_ni, is_nt, Bool.not_false, Bool.not_true, tSeq, tIfS, tRet, tRetN, tNext, tNever, tAsg, gName, tVar, tC, tOp, tUn, tCons, tNil, tCB, tCall, tTest, tB, tAnd, tOr, tNot, tAndV, tOrV, tNotV, tIf, tChain, rI0, rI, rU, rEq, rNe, List.map_cons, List.map_nil, List.length_cons, List.length_nil, List.replicate, List.cons_append, List.nil_append, List.append_nil, List.getElem?_cons_zero, List.getElem?_cons_succ, List.set_cons_zero, List.set_cons_succ, Option.some.injEq, exists_eq_left', exists_eq_left, exists_eq_right, V.str.injEq, V.int.injEq, V.bl.injEq, V.ref.injEq, V.ty.injEq, List.cons.injEq, and_true, true_and, exists_and_left, Nat.zero_add, Nat.add_sub_cancel, Nat.sub_self, Nat.succ_sub_succ_eq_sub, Nat.reduceSub, Nat.reduceAdd, Nat.sub_zero, tYes, tSl, tPart, tNoPart, if_true, Bool.false_eq_true, if_false, reduceCtorEq, false_and, exists_false, or_false, false_or, scal, tLc_eq, tFor_eq, iStr, iList, iTup, RZ.iZipA, decide_false, decide_true, tM1, tM0, tDrop]
  refine .inr ⟨a, wd, ks, rest, rfl, ha, hst, fun H1 e1 => ?_⟩
  rw [hb]
  try simp only [is_ss, is_si, is_ii, is_ib, is_is, is_bs, is_ns, is_ni, is_nt, Bool.not_false, Bool.not_true, tSeq, tIfS, tRet, tRetN, tNext, tNever, tAsg, gName, tVar, tC, tOp, tUn, tCons, tNil, tCB, tCall, tTest, tB, tAnd, tOr, tNot, tAndV, tOrV, tNotV, tIf, tChain, rI0, rI, rU, rEq, rNe, List.map_cons, List.map_nil, List.length_cons, List.length_nil, List.replicate, List.cons_append, List.nil_append, List.append_nil, List.getElem?_cons_zero, List.getElem?_cons_succ, List.set_cons_zero, List.set_cons_succ, Option.some.injEq, exists_eq_left', exists_eq_left, exists_eq_right, V.str.injEq, V.int.injEq, V.bl.injEq, V.ref.injEq, V.ty.injEq, List.cons.injEq, and_true, true_and, exists_and_left, Nat.zero_add, Nat.add_sub_cancel, Nat.sub_self, Nat.succ_sub_succ_eq_sub, Nat.reduceSub, Nat.reduceAdd, Nat.sub_zero, tYes, tSl, tPart, tNoPart, if_true, Bool.false_eq_true, if_false, reduceCtorEq, false_and, exists_false, or_false, false_or, scal, tLc_eq, tFor_eq, iStr, iList, iTup, RZ.iZipA, decide_false, decide_true, tM1, tM0, tDrop]
  have ha1 := e1 a _ ha
  refine ⟨⟨_, rfl⟩, ⟨_, SqT.of ha1⟩, ?_⟩
  have hlen : (V.str wd :: rest).length < sizeLine := by
    have h3 := forms_short hst.1
    rw [List.length_cons, hst.2.1]
    exact small (by omega)
  refine lcA (goes_tup hlen) (fun H' e => exT e (SqT.of ha1)) (fun m => .str (showV m)) (fun m hm H3 e3 Q' q' => ?_) (fun D H3 h1' h2' h3 => ?_) (fun _ => rfl)
  · try simp only [wipe, is_ss, is_si, is_ii, is_ib, is_is, is_bs, is_ns, is_ni, is_nt, Bool.not_false, Bool.not_true, tSeq, tIfS, tRet, tRetN, tNext, tNever, tAsg, gName, tVar, tC, tOp, tUn, tCons, tNil, tCB, tCall, tTest, tB, tAnd, tOr, tNot, tAndV, tOrV, tNotV, tIf, tChain, rI0, rI, rU, rEq, rNe, List.map_cons, List.map_nil, List.length_cons, List.length_nil, List.replicate, List.cons_append, List.nil_append, List.append_nil, List.getElem?_cons_zero, List.getElem?_cons_succ, List.set_cons_zero, List.set_cons_succ, Option.some.injEq, exists_eq_left', exists_eq_left, exists_eq_right, V.str.injEq, V.int.injEq, V.bl.injEq, V.ref.injEq, V.ty.injEq, List.cons.injEq, and_true, true_and, exists_and_left, Nat.zero_add, Nat.add_sub_cancel, Nat.sub_self, Nat.succ_sub_succ_eq_sub, Nat.reduceSub, Nat.reduceAdd, Nat.sub_zero, tYes, tSl, tPart, tNoPart, if_true, Bool.false_eq_true, if_false, reduceCtorEq, false_and, exists_false, or_false, false_or, scal, tLc_eq, tFor_eq, iStr, iList, iTup, RZ.iZipA, decide_false, decide_true, tM1, tM0, tDrop]
    have hm2 : Shown m := by
      rcases List.mem_cons.mp hm with e | e
      · exact .inl ⟨wd, e⟩
      · exact hsh m e
    rcases hm2 with ⟨x, rfl⟩ | ⟨i, rfl, hi⟩
    · exact .inr ⟨x, rfl, q' H3 (Ex.refl _)⟩
    · exact .inl ⟨i, rfl, hi, q' H3 (Ex.refl _)⟩
  · refine ⟨D, rfl, (V.str wd :: rest).map showV, .inl (SqL.of (by rw [h3, List.map_map]; rfl)), ?_, hQ H3 (e1.trans h2')⟩
    have e6 : (Str.ofString " ").length = 1 := by decide +kernel
    rw [e6, List.length_map, List.length_cons, Nat.mul_one]
    exact hz

end K17

-- text K17Num
set_option maxHeartbeats 4000000
/-! ## numbers as texts -/
namespace K17
open PySem L2
abbrev tl (x : Str) : List Nat := TL.tl x
def isDig (c : Nat) : Bool := decide (48 ≤ c) && decide (c ≤ 57)
theorem digits_tl : (Str.ofString "0123456789").cps.toList = [48, 49, 50, 51, 52, 53, 54, 55, 56, 57] := by decide +kernel
theorem digits_dig (c : Nat) : decide (c ∈ (Str.ofString "0123456789").cps.toList) = isDig c := by
  rw [digits_tl, Bool.eq_iff_iff]
  simp only [List.mem_cons, List.not_mem_nil, or_false, decide_eq_true_eq, isDig, Bool.and_eq_true]
  omega
def digsL (l : List Nat) : List Nat := if l.head? = some 45 then l.tail else l
def numB (l : List Nat) : Bool := !(digsL l).isEmpty && (digsL l).all isDig && (decide (l = [48]) || decide ((digsL l).head? ≠ some 48))
def numI (l : List Nat) : Int := if l.head? = some 45 then -((NumText.digitsVal (digsL l) : Nat) : Int) else ((NumText.digitsVal (digsL l) : Nat) : Int)
theorem allD {ds : List Nat} (h : ds.all isDig = true) : NumText.AllDigits ds := by
  intro c hc
  have := List.all_eq_true.mp h c hc
  unfold isDig at this
  simp only [Bool.and_eq_true, decide_eq_true_eq] at this
  exact this
theorem int_text (n : Int) : TL.tl (Str.ofString (toString n)) = if n < 0 then 45 :: TL.numL n.natAbs else TL.numL n.natAbs := by
  cases n with
  | ofNat m => exact TL.tl_num m
  | negSucc m =>
    rw [if_pos (Int.negSucc_lt_zero m)]
    have e : toString (Int.negSucc m) = "-" ++ toString (((m + 1 : Nat)) : Int) := rfl
    rw [e, TL.tl_ofString, String.toList_append, List.map_append, ← TL.tl_ofString (toString ((m + 1 : Nat) : Int)), TL.tl_num]
    rfl
theorem ofNat_toNat {c : Nat} (h : c ≤ 57) : (Char.ofNat c).toNat = c := by
  have key : ∀ d : Nat, d < 58 → (Char.ofNat d).toNat = d := by decide
  exact key c (by omega)
theorem numL_canon {ds : List Nat} (hd : NumText.AllDigits ds) (hne : ds ≠ []) : TL.numL (NumText.digitsVal ds) = ds ↔ (ds = [48] ∨ ds.head? ≠ some 48) := by
  have e := NumText.toDigits_all ds hd
  have back : ∀ l : List Nat, NumText.AllDigits l → (l.map Char.ofNat).map Char.toNat = l := by
    intro l hl
    rw [List.map_map]
    conv => rhs; rw [← List.map_id l]
    exact List.map_congr_left fun c hc => ofNat_toNat (hl c hc).2
  unfold TL.numL
  rw [e]
  cases q : ds.dropWhile (· == 48) with
  | nil =>
    have all48 : ∀ c ∈ ds, c = 48 := by
      intro c hc
      have hq : ∀ l : List Nat, l.dropWhile (· == 48) = [] → ∀ c ∈ l, c = 48 := by
        intro l
        induction l with
        | nil => intro _ c hc; cases hc
        | cons d r ih =>
          intro h c hc
          rw [List.dropWhile_cons] at h
          by_cases hd : d = 48
          · rw [if_pos (by simpa using hd)] at h
            rcases List.mem_cons.mp hc with e | e
            · rw [e]; exact hd
            · exact ih h c e
          · rw [if_neg (by simpa using hd)] at h
            cases h
      exact hq ds q c hc
    constructor
    · intro h
      exact .inl h.symm
    · rintro (h | h)
      · rw [h]
        rfl
      · cases ds with
        | nil => exact absurd rfl hne
        | cons c r => exact absurd (by rw [all48 c (List.mem_cons_self)]; rfl) h
  | cons c r =>
    have hsub : NumText.AllDigits (c :: r) := fun x hx => hd x ((List.dropWhile_sublist _).subset (by rw [q]; exact hx))
    show ((c :: r).map Char.ofNat).map Char.toNat = ds ↔ _
    rw [back _ hsub]
    have hc : c ≠ 48 := by
      intro z
      have := List.head?_dropWhile_not (fun x : Nat => x == 48) ds
      rw [q] at this
      simp [z] at this
    constructor
    · intro h
      refine .inr ?_
      rw [← h]
      simpa using hc
    · rintro (h | h)
      · rw [h] at q
        simp at q
      · cases ds with
        | nil => exact absurd rfl hne
        | cons c2 r2 =>
          have h2 : c2 ≠ 48 := by simpa using h
          rw [List.dropWhile_cons, if_neg (by simpa using h2)] at q
          exact q.symm
theorem val_pos {ds : List Nat} (hd : NumText.AllDigits ds) (hne : ds ≠ []) (h : ds.head? ≠ some 48) : 0 < NumText.digitsVal ds := by
  cases ds with
  | nil => exact absurd rfl hne
  | cons c r =>
    have h2 : c ≠ 48 := by simpa using h
    have := hd c List.mem_cons_self
    exact NumText.digitsVal_pos (by omega)
theorem digs_neg (r : List Nat) : digsL (45 :: r) = r := rfl
theorem digs_pos {c : Nat} (r : List Nat) (h : c ≠ 45) : digsL (c :: r) = c :: r := by
  unfold digsL
  rw [if_neg (by simpa using h)]
theorem numI_neg (r : List Nat) : numI (45 :: r) = -((NumText.digitsVal r : Nat) : Int) := rfl
theorem numI_pos {c : Nat} (r : List Nat) (h : c ≠ 45) : numI (c :: r) = ((NumText.digitsVal (c :: r) : Nat) : Int) := by
  unfold numI
  rw [if_neg (by simpa using h), digs_pos r h]
/-- a number's text is the word again just if the word is written plainly -/
theorem num_back {l : List Nat} (hd : (digsL l).all isDig = true) (hne : digsL l ≠ []) : decide (TL.tl (Str.ofString (toString (numI l))) = l) = (decide (l = [48]) || decide ((digsL l).head? ≠ some 48)) := by
  have ha := allD hd
  rw [Bool.eq_iff_iff, decide_eq_true_eq, Bool.or_eq_true, decide_eq_true_eq, decide_eq_true_eq, int_text]
  cases l with
  | nil => exact absurd rfl hne
  | cons c r =>
    by_cases h45 : c = 45
    · subst h45
      rw [digs_neg] at *
      rw [numI_neg]
      have c1 := numL_canon ha hne
      by_cases h0 : NumText.digitsVal r = 0
      · rw [h0]
        constructor
        · intro h
          exact absurd (show TL.numL 0 = 45 :: r from h) (by rw [show TL.numL 0 = [48] from rfl]; intro z; cases z)
        · rintro (h | h)
          · cases h
          · exact absurd h0 (Nat.ne_of_gt (val_pos ha hne h))
      · rw [if_pos (by omega)]
        have e : (-((NumText.digitsVal r : Nat) : Int)).natAbs = NumText.digitsVal r := by omega
        rw [e]
        constructor
        · intro h
          injection h with h1 h2
          rcases c1.mp h2 with z | z
          · rw [z] at h0
            exact absurd rfl h0
          · exact .inr z
        · rintro (h | h)
          · cases h
          · rw [c1.mpr (.inr h)]
    · rw [digs_pos r h45] at *
      rw [numI_pos r h45, if_neg (by omega), Int.natAbs_natCast]
      exact numL_canon ha hne
theorem int_reads {x : Str} (hd : (digsL (tl x)).all isDig = true) (hne : digsL (tl x) ≠ []) (hl : x.length ≤ 640) : PySem.intText? x = some (numI (tl x)) := by
  have ha := allD hd
  cases q : tl x with
  | nil =>
    rw [q] at hne
    exact absurd rfl hne
  | cons c r =>
    rw [q] at ha hne
    by_cases h45 : c = 45
    · subst h45
      rw [digs_neg] at *
      rw [numI_neg]
      exact PySem.intText_neg q ha hne (by omega)
    · rw [digs_pos r h45] at *
      rw [numI_pos r h45, ← q]
      exact PySem.intText_digits (by rw [show x.cps.toList = c :: r from q]; exact ha) (by rw [show x.cps.toList = c :: r from q]; exact hne) (by omega)
theorem val_lt : ∀ {ds : List Nat}, NumText.AllDigits ds → NumText.digitsVal ds < 10 ^ ds.length := by
  have key : ∀ (ds : List Nat) (a : Nat), NumText.AllDigits ds → ds.foldl (fun acc c => acc * 10 + (c - 48)) a < (a + 1) * 10 ^ ds.length := by
    intro ds
    induction ds with
    | nil => intro a _; simp
    | cons c r ih =>
      intro a h
      have hc := h c List.mem_cons_self
      have q := ih (a * 10 + (c - 48)) (fun d hd => h d (List.mem_cons_of_mem _ hd))
      rw [List.foldl_cons, List.length_cons, Nat.pow_succ]
      have h3 : (a * 10 + (c - 48) + 1) * 10 ^ r.length ≤ ((a + 1) * 10) * 10 ^ r.length := Nat.mul_le_mul_right _ (by omega)
      have h4 : (a + 1) * 10 * 10 ^ r.length = (a + 1) * (10 ^ r.length * 10) := by rw [Nat.mul_assoc, Nat.mul_comm 10]
      omega
  intro ds h
  have q := key ds 0 h
  rw [Nat.zero_add, Nat.one_mul] at q
  exact q
theorem numI_small {l : List Nat} (hd : (digsL l).all isDig = true) (hl : l.length ≤ 30) : (numI l).natAbs.log2 < 1920 := by
  have h1 := val_lt (allD hd)
  have h2 : (digsL l).length ≤ 30 := by
    unfold digsL
    split
    · rw [List.length_tail]; omega
    · exact hl
  have h3 : (numI l).natAbs = NumText.digitsVal (digsL l) := by
    unfold numI
    split <;> omega
  rw [h3]
  have h4 : (10 : Nat) ^ (digsL l).length ≤ 10 ^ 30 := Nat.pow_le_pow_right (by decide) h2
  have h5 : NumText.digitsVal (digsL l) < 2 ^ 100 := Nat.lt_trans (Nat.lt_of_lt_of_le h1 h4) (by decide)
  by_cases h0 : NumText.digitsVal (digsL l) = 0
  · rw [h0]; decide
  · have := (Nat.log2_lt h0).mpr h5
    omega
/-! ### slices of texts -/
theorem tl_cut_from (z : Str) (k : Nat) : TL.tl (cutS z (some (k : Int)) none) = (TL.tl z).drop k := by
  show ((z.cps.toList.drop (HT.sIx z.length 0 (some (k : Int)))).take (HT.sIx z.length z.length none - HT.sIx z.length 0 (some (k : Int)))) = _
  rw [HT.sIx_nat, HT.sIx_none]
  have hl : z.length = z.cps.toList.length := TL.len_tl z
  rw [hl]
  show List.take _ (List.drop _ z.cps.toList) = List.drop k z.cps.toList
  by_cases h : k ≤ z.cps.toList.length
  · rw [Nat.min_eq_left h, List.take_of_length_le (by rw [List.length_drop]; exact Nat.le_refl _)]
  · rw [Nat.min_eq_right (by omega), List.drop_of_length_le (Nat.le_refl _), List.drop_of_length_le (by omega)]
    simp
theorem tl_cut_to (z : Str) (k : Nat) : TL.tl (cutS z none (some (k : Int))) = (TL.tl z).take k := by
  show ((z.cps.toList.drop (HT.sIx z.length 0 none)).take (HT.sIx z.length z.length (some (k : Int)) - HT.sIx z.length 0 none)) = _
  rw [HT.sIx_nat, HT.sIx_none, Nat.sub_zero]
  have hl : z.length = z.cps.toList.length := TL.len_tl z
  rw [hl]
  show List.take _ (List.drop _ z.cps.toList) = List.take k z.cps.toList
  rw [List.drop_zero]
  by_cases h : k ≤ z.cps.toList.length
  · rw [Nat.min_eq_left h]
  · rw [Nat.min_eq_right (by omega), List.take_of_length_le (Nat.le_refl _), List.take_of_length_le (by omega)]
end K17

-- text K17It
set_option maxHeartbeats 8000000
namespace K17
open PySem PySem.Spec PyProof.Rows L2 Evl
variable {P : Program} {w : World} {K : PySem.W.Frag} {mg : Str → Option Value} {base : Heap} {d : Ad}
/-! ## InvalidText: its __init__, raising it -/
def spTI (it : Addr) : Sp := fun vs H Q _ => ∃ (a : Addr) (n : Int), vs = [.ref a, .int n] ∧ n.natAbs < 10 ^ 10 ∧ H a = some (exo a it none) ∧ ∀ dx, H dx = none → dx ≠ a → Q .non (upd (upd H dx (exd dx [(Str.ofString "line", .int n)])) a (exo a it (some dx)))
/-- what the head tells of the exception classes -/
structure Tex (K : PySem.W.Frag) (mg : Str → Option Value) (d : Ad) : Prop where
  c_it : mg "InvalidText" = some (.ref d.it)
  c_le : mg "LoaderError" = some (.ref d.le)
  oex : OexC K d.it
  rdL : PySem.W.readsIn K d.le (.type "type") = true
  gaL : PySem.W.specialIn K (.ref d.le) "__getattribute__" = some (some (.builtin "type.__getattribute__"))
  vL : PySem.W.findCls K (.ref d.le) (.type "type") "__init__" = some (.val (.builtin "ValueError.__init__"))
  nline : PySem.W.findIn K (.ref d.it) "line" = some none
  tI : ∃ (fI : Addr) (fd : FuncData), PySem.W.findIn K (.ref d.it) "__init__" = some (some (.ref fI)) ∧ PySem.W.typeIn K (.ref fI) = some (.type "function") ∧ FunD K "__init__" "InvalidText.__init__" (defArgs s_InvalidText_init) (defBody s_InvalidText_init) (defScope s_InvalidText_init) [] [] fI fd
def Tit (P : Program) (w : World) (K : PySem.W.Frag) (mg : Str → Option Value) (base : Heap) (it : Addr) : Prop :=
  mg "InvalidText" = some (.ref it) ∧ OexC K it ∧ ∃ (fI : Addr) (fd : FuncData), PySem.W.findIn K (.ref it) "__init__" = some (some (.ref fI)) ∧ PySem.W.typeIn K (.ref fI) = some (.type "function") ∧ Binds K fd ["self", "line"] [] ∧ FnOk P w K mg base CX0 2 fI fd ["self", "line"] (spTI it)
theorem str_int_len {n : Int} (h : n.natAbs < 10 ^ 10) : (Str.ofString (toString n)).length ≤ 11 := by
  have h1 : (TL.numL n.natAbs).length ≤ 10 := TL.numL_len (by decide) h
  rw [TL.len_tl, int_text]
  split
  · rw [List.length_cons]; omega
  · omega
theorem log_small {n : Nat} (h : n < 10 ^ 10) : n.log2 < 1920 := by
  by_cases h0 : n = 0
  · rw [h0]; decide
  · have := (Nat.log2_lt (k := 40) h0).mpr (Nat.lt_trans h (by decide))
    omega
theorem len_app (x y : Str) : (x ++ y).length = x.length + y.length := by rw [TL.len_tl, TL.tl_append, List.length_append, ← TL.len_tl, ← TL.len_tl]
/-- what raising InvalidText(n) comes to -/
def RaisesIt (it : Addr) (n : Int) (H : Hp) (E : XK) : Prop := ∀ dd H', Ex H H' → H' dd = some (.xd [(Str.ofString "line", .int n)]) → E (.ref it) (some dd) H'
def MkO (C : Addr) (sp : Sp) (vs : List V) (H1 : Hp) (Q : XK) : Prop := vs.length ≤ 1000 ∧ ∀ a, H1 a = none → sp (.ref a :: (vs ++ [])) (upd H1 a (exo a C none))
  (fun v H2 => v = .non ∧ ∃ (d : Addr) (fs : List (Str × V)), H2 a = some (exo a C (some d)) ∧ H2 d = some (exd d fs) ∧ H1 d = none ∧ Q (.ref C) (some d) (upd (del H2 a) d (.xd fs))) (fun _ _ _ => False)
theorem tMkO_eq {C : Addr} {sp : Sp} {ta : TA} {σ : L2.St} {H : Hp} {Q : XK} : tMkO C sp [] ta σ H Q = ta σ H (fun vs H1 => MkO C sp vs H1 Q) := rfl
theorem mkO_it {it : Addr} {n : Int} {H : Hp} {Q : XK} (hn : n.natAbs < 10 ^ 10) (h : RaisesIt it n H Q) : MkO it (spTI it) [.int n] H Q := by
  refine ⟨Nat.le_of_ble_eq_true rfl, fun a ha => ⟨a, n, rfl, hn, upd_same, fun dx hdx hne => ⟨rfl, dx, [(Str.ofString "line", .int n)], upd_same, ?_, ?_, ?_⟩⟩⟩
  · rw [upd_ne hne, upd_same]
  · rw [upd_ne hne] at hdx
    exact hdx
  · have hd0 : H dx = none := by
      rw [upd_ne hne] at hdx
      exact hdx
    refine h dx _ (fun b o hb => ?_) upd_same
    have n1 : b ≠ a := ne_of_none hb ha
    have n2 : b ≠ dx := ne_of_none hb hd0
    rw [upd_ne n2, del_ne n1, upd_ne n1, upd_ne n2, upd_ne n1]
    exact hb
theorem pmk_it {X : Cx} {it : Addr} {p pos : Pos} {e : Expr} {ta : TA} (T : Tit X.prog X.w X.K X.mg X.base it) (hr : Room 3 X.A) (ha : PA X [e] ta) (hg : Gl X "InvalidText" := by rfl) (he : starEach [e] X.env = (false, eval e X.env) :: starEach [] X.env := by rfl) (hpl : (backTo pos (starEach [] X.env)).any (·.1) = false := by rfl) :
    PMk X (.Call (.Name "InvalidText" p) [e] [] pos) (tMkO it (spTI it) [] ta) := by
  obtain ⟨c, o, fI, fd, h1, h2, hb, F⟩ := T
  exact pmk_oex o h1 h2 F hr hb .nil pass0 hg c ha (by decide) he hpl
theorem tit (E : Tex K mg d) : Tit P w K mg base d.it := by
  obtain ⟨fI, fd, h1, h2, F⟩ := E.tI
  refine ⟨E.c_it, E.oex, fI, fd, h1, h2, F.bindsN (fun _ _ _ _ _ _ us hl => match us, hl with | [_, _], _ => rfl), ?_⟩
  refine F.ok (k := 1) sc_InvalidText_init (fun vs H Q E h => by obtain ⟨a, n, rfl, _⟩ := h; rfl) fun cdv A outer s H vs Q E' hr h => ?_
  obtain ⟨a, n, rfl, hn, ha, hQ⟩ := h
  refine ⟨_, PSs.nox (pss_cons (ps_expr (pe_ldinit (by rfl) E.c_le E.rdL E.gaL E.vL (pa_cons (pv 0) (pa_cons (pe_joined (.cons pe_str (.cons (pe_fmt (pv 1)) .nil))) pa_nil)))) (pss_one (ps_ost (pv 0) (pv 1)))), ?_⟩
  try simp only [tVeI, tJs, tFmt, tOst, n_InvalidText_init, L2.start, cxK, cxW, cxK', cxW', is_ss, is_si, is_ii, is_ib, is_is, is_bs, is_ns, is_ni, is_nt, Bool.not_false, Bool.not_true, tSeq, tIfS, tRet, tRetN, tNext, tNever, tAsg, gName, tVar, tC, tOp, tUn, tCons, tNil, tCB, tCall, tTest, tB, tAnd, tOr, tNot, tAndV, tOrV, tNotV, tIf, tChain, rI0, rI, rU, rEq, rNe, List.map_cons, List.map_nil, List.length_cons, List.length_nil, List.replicate, List.cons_append, List.nil_append, List.append_nil, List.getElem?_cons_zero, List.getElem?_cons_succ, List.set_cons_zero, List.set_cons_succ, Option.some.injEq, exists_eq_left', exists_eq_left, exists_eq_right, V.str.injEq, V.int.injEq, V.bl.injEq, V.ref.injEq, V.ty.injEq, List.cons.injEq, and_true, true_and, exists_and_left, Nat.zero_add, Nat.add_sub_cancel, Nat.sub_self, Nat.succ_sub_succ_eq_sub, Nat.reduceSub, Nat.reduceAdd, Nat.sub_zero, tYes, tSl, tPart, tNoPart, if_true, Bool.false_eq_true, if_false, reduceCtorEq, false_and, exists_false, or_false, false_or, scal, tLc_eq, tFor_eq, iStr, iList, iTup, RZ.iZipA, decide_false, decide_true, tM1, tM0, tDrop]
  have e1 : (Str.empty ++ Str.ofString "invalid text at line ").length ≤ sizeLine := by decide +kernel
  have e2 : (Str.empty ++ Str.ofString "invalid text at line ").length = 21 := by decide +kernel
  refine ⟨e1, log_small hn, ?_, a, d.it, _, ⟨rfl, rfl⟩, Nat.le_of_ble_eq_true rfl, E.oex, ha, d.it, E.oex, E.nline, .inl ⟨ha, hQ⟩⟩
  rw [len_app, e2]
  have := str_int_len hn
  exact small' (by omega)

end K17

-- text K17H1
set_option maxHeartbeats 8000000
namespace K17
open PySem PySem.Spec PyProof.Rows L2 Evl
variable {P : Program} {w : World} {K : PySem.W.Frag} {mg : Str → Option Value} {base : Heap} {d : Ad}
/-! ## Bool facts of the module's part, and what they tell -/
def oexCls (K : PySem.W.Frag) (C : Addr) : Bool := match K.lookup C with
  | some ⟨.type "type", _, .cls cd, sl⟩ => (match cd.mro, sl.toList with
    | .ref C' :: bm, [_, _, _, _, some (.builtin n), _] => C' == C && (n == "ValueError.__new__" && (!cd.hasDel && (cd.hasDict && PySem.HandSPX.refsVE bm)))
    | _, _ => false)
  | _ => false
theorem oexCls_ok {K : PySem.W.Frag} {C : Addr} (h : oexCls K C = true) : ∃ nm q N bs bm sn sub ab col dd k0 k1 k2 k3 k5, K.lookup C = some (excClassObj nm q C N bs bm true sn sub ab col dd k0 k1 k2 k3 k5 "ValueError.__new__") ∧ PySem.HandSPX.refsVE bm = true := by
  unfold oexCls at h
  split at h
  · rename_i dd cd sl ho
    split at h
    · rename_i C' bm k0 k1 k2 k3 n k5 hm hs
      simp only [Bool.and_eq_true, beq_iff_eq, Bool.not_eq_true'] at h
      obtain ⟨rfl, rfl, h3, h4, h5⟩ := h
      obtain ⟨nm, bs, mro, ns, qn, hd, sn, sub, ab, col, del⟩ := cd
      simp only at hm h3 h4
      subst hm h3 h4
      have hs2 : sl = #[k0, k1, k2, k3, some (.builtin "ValueError.__new__"), k5] := by
        rw [← Array.toList_inj, hs]
      subst hs2
      exact ⟨nm, qn, ns, bs, bm, sn, sub, ab, col, dd, k0, k1, k2, k3, k5, ho, h5⟩
    · cases h
  · cases h
def oexB (K : PySem.W.Frag) (C : Addr) : Bool := oexCls K C && (decide (PySem.W.findIn K (.ref C) "__setattr__" = some (some (.builtin "object.__setattr__"))) && (decide (PySem.W.subIn K (.ref C) (.type "BaseException") = some true) && (decide (PySem.W.typeIn K (.ref C) = some (.type "type")) && PySem.W.keepIn K (.ref C))))
theorem oexB_ok {K : PySem.W.Frag} {C : Addr} (h : oexB K C = true) : OexC K C := by
  obtain ⟨h1, h⟩ := Bool.and_eq_true_iff.mp h
  obtain ⟨h2, h⟩ := Bool.and_eq_true_iff.mp h
  obtain ⟨h3, h⟩ := Bool.and_eq_true_iff.mp h
  obtain ⟨h4, h5⟩ := Bool.and_eq_true_iff.mp h
  exact ⟨oexCls_ok h1, of_decide_eq_true h2, of_decide_eq_true h3, of_decide_eq_true h4, h5⟩
def xisB (K : PySem.W.Frag) (D : Addr) : Bool := (PySem.W.clsIn K D).isSome && (decide (PySem.W.findIn K (.ref D) "__getattribute__" = some (some (.builtin "BaseException.__getattribute__"))) && (decide (PySem.W.findIn K (.ref D) "__getattr__" = some none) && (decide (PySem.W.subIn K (.ref D) (.type "BaseException") = some true) &&
  (decide (PySem.W.findIn K (.ref D) "__class__" = some (some (.builtin "object.__class__"))) && (decide (PySem.W.specialIn K (.builtin "object.__class__") "__get__" = some (some (.builtin "getset_descriptor.__get__"))) && (decide (PySem.W.takesIn K (.builtin "object.__class__") = some true) && decide (PySem.W.mroIn K D (.type "object") = some true)))))))
theorem xisB_ok {K : PySem.W.Frag} {D : Addr} (h : xisB K D = true) : XisC K D := by
  obtain ⟨h1, h⟩ := Bool.and_eq_true_iff.mp h
  obtain ⟨h2, h⟩ := Bool.and_eq_true_iff.mp h
  obtain ⟨h3, h⟩ := Bool.and_eq_true_iff.mp h
  obtain ⟨h4, h⟩ := Bool.and_eq_true_iff.mp h
  obtain ⟨h5, h⟩ := Bool.and_eq_true_iff.mp h
  obtain ⟨h6, h⟩ := Bool.and_eq_true_iff.mp h
  obtain ⟨h7, h8⟩ := Bool.and_eq_true_iff.mp h
  exact ⟨h1, of_decide_eq_true h2, of_decide_eq_true h3, of_decide_eq_true h4, of_decide_eq_true h5, of_decide_eq_true h6, of_decide_eq_true h7, of_decide_eq_true h8⟩

end K17

-- text K17H2
set_option maxHeartbeats 8000000
namespace K17
open PySem PySem.Spec PyProof.Rows L2 Evl
variable {P : Program} {w : World} {K : PySem.W.Frag} {mg : Str → Option Value} {base : Heap} {d : Ad}
/-! ## written tuples of texts; the dict of forms -/
theorem look_memH {α : Type} {w : Str} {n : α} : ∀ {L : List (Str × α)}, L.lookup w = some n → (w, n) ∈ L
  | [], h => by cases h
  | q :: r, h => by
    rw [List.lookup_cons] at h
    cases hw : (w == q.1) with
    | true =>
      rw [hw] at h
      cases h
      rw [eq_of_beq hw]
      exact List.mem_cons_self
    | false =>
      rw [hw] at h
      exact List.mem_cons_of_mem _ (look_memH h)
def strsAre : List Value → List Str → Bool
  | [], [] => true
  | .str x _ :: r, y :: s => x == y && strsAre r s
  | _, _ => false
theorem strsAre_ok : ∀ {its : List Value} {ls : List Str}, strsAre its ls = true → Vals (ls.map V.str) its
  | [], [], _ => .nil
  | .str x t :: r, y :: s, h => by
    have h' : (x == y && strsAre r s) = true := h
    obtain ⟨h1, h2⟩ := Bool.and_eq_true_iff.mp h'
    rw [beq_iff_eq] at h1
    subst h1
    exact .cons ⟨t, rfl⟩ (strsAre_ok h2)
def tupB (K : PySem.W.Frag) (a : Addr) (ls : List Str) : Bool := match K.lookup a with
  | some ⟨.type "tuple", _, .seq its _, _⟩ => strsAre its.toList ls && decide (its.size ≤ 100)
  | _ => false
theorem tupB_ok {K : PySem.W.Frag} {a : Addr} {ls : List Str} (h : tupB K a ls = true) (H : Hp) : SqT K H a (ls.map V.str) := by
  unfold tupB at h
  split at h
  · rename_i dd its n sl ho
    obtain ⟨h1, h2⟩ := Bool.and_eq_true_iff.mp h
    exact .inr ⟨_, its, n, ho, rfl, rfl, small' (by have := of_decide_eq_true h2; omega), strsAre_ok h1⟩
  · cases h
/-- the address that a written dict holds under a text -/
def atK (K : PySem.W.Frag) (m : Addr) (z : Str) : Addr := match PySem.W.nsIn K m z with
  | some (some (.ref a)) => a
  | _ => 0
def formB (K : PySem.W.Frag) (m : Addr) : Bool := FORMS.all fun q => decide (PySem.W.nsIn K m q.1 = some (some (.ref (atK K m q.1)))) && tupB K (atK K m q.1) q.2
theorem formB_ok {K : PySem.W.Frag} {m : Addr} (h : formB K m = true) : ∀ z ks, formK z = some ks → ∃ p, PySem.W.nsIn K m z = some (some (.ref p)) ∧ ∀ H, SqT K H p (ks.map V.str) := by
  intro z ks hz
  have hm := look_memH hz
  have q := List.all_eq_true.mp h _ hm
  obtain ⟨q1, q2⟩ := Bool.and_eq_true_iff.mp q
  exact ⟨_, of_decide_eq_true q1, fun H => tupB_ok q2 H⟩
def keysB (K : PySem.W.Frag) (m : Addr) : Bool := match K.lookup m with
  | some ⟨_, _, .dict es _, _⟩ => es.toList.all fun e => match e.key with
    | .str y _ => (formK y).isSome
    | _ => false
  | _ => false
theorem keysB_ok {K : PySem.W.Frag} {m : Addr} (h : keysB K m = true) : ∀ z, formK z = none → PySem.W.nsIn K m z = some none := by
  intro z hz
  unfold keysB at h
  split at h
  · rename_i c dd es n sl ho
    unfold PySem.W.nsIn
    rw [ho]
    have key : ∀ e ∈ es.toList, ∃ y t, e.key = .str y t ∧ (formK y).isSome = true := fun e he => by
      have q := List.all_eq_true.mp h e he
      cases hk : e.key with
      | str y t =>
        rw [hk] at q
        exact ⟨y, t, rfl, q⟩
      | _ => rw [hk] at q; cases q
    have h1 : es.toList.find? (fun e => e.key.isStr z) = none := by
      rw [List.find?_eq_none]
      intro e he hs
      obtain ⟨y, t, hk, hy⟩ := key e he
      rw [hk] at hs
      have e1 : y = z := by simpa [Value.isStr] using hs
      rw [e1, hz] at hy
      cases hy
    have h2 : es.toList.any (·.refKey) = false := by
      rw [List.any_eq_false]
      intro e he
      obtain ⟨y, t, hk, _⟩ := key e he
      simp [DictEntry.refKey, hk]
    show (match es.toList.find? (fun e => e.key.isStr z) with
      | some e => some (some e.val)
      | none => if es.toList.any (·.refKey) = true then none else some none) = some none
    rw [h1, h2]
    rfl
  · cases h

end K17

-- text K17H4
set_option maxHeartbeats 0
/-! ## the head: the run of the top -/
namespace K17
open PySem PySem.Spec PyProof.Rows L2

def d_InvalidText_init : He.DefD := ⟨("InvalidText", some "__init__"), "__init__", "InvalidText.__init__", defArgs s_InvalidText_init, defBody s_InvalidText_init, defScope s_InvalidText_init, [], []⟩
def d_is_name : He.DefD := ⟨("is_name", none), "is_name", "is_name", defArgs s_is_name, defBody s_is_name, defScope s_is_name, [], []⟩
def d_is_integer : He.DefD := ⟨("is_integer", none), "is_integer", "is_integer", defArgs s_is_integer, defBody s_is_integer, defScope s_is_integer, [], []⟩
def d_is_variable : He.DefD := ⟨("is_variable", none), "is_variable", "is_variable", defArgs s_is_variable, defBody s_is_variable, defScope s_is_variable, [], []⟩
def d_is_item : He.DefD := ⟨("is_item", none), "is_item", "is_item", defArgs s_is_item, defBody s_is_item, defScope s_is_item, [], []⟩
def d_is_step : He.DefD := ⟨("is_step", none), "is_step", "is_step", defArgs s_is_step, defBody s_is_step, defScope s_is_step, [], []⟩
def d_step_modules : He.DefD := ⟨("step_modules", none), "step_modules", "step_modules", defArgs s_step_modules, defBody s_step_modules, defScope s_step_modules, [], []⟩
def d_is_wrong : He.DefD := ⟨("is_wrong", none), "is_wrong", "is_wrong", defArgs s_is_wrong, defBody s_is_wrong, defScope s_is_wrong, [], []⟩
def d_first_problem : He.DefD := ⟨("first_problem", none), "first_problem", "first_problem", defArgs s_first_problem, defBody s_first_problem, defScope s_first_problem, [], [("is_main", .bl false), ("known", .non)]⟩
def d_step_text : He.DefD := ⟨("step_text", none), "step_text", "step_text", defArgs s_step_text, defBody s_step_text, defScope s_step_text, [], []⟩
def d_parse_integer : He.DefD := ⟨("parse_integer", none), "parse_integer", "parse_integer", defArgs s_parse_integer, defBody s_parse_integer, defScope s_parse_integer, [], []⟩
def d_parse_step : He.DefD := ⟨("parse_step", none), "parse_step", "parse_step", defArgs s_parse_step, defBody s_parse_step, defScope s_parse_step, [], []⟩
def d_check_library : He.DefD := ⟨("check_library", none), "check_library", "check_library", defArgs s_check_library, defBody s_check_library, defScope s_check_library, [], []⟩
def d_Library_init : He.DefD := ⟨("Library", some "__init__"), "__init__", "Library.__init__", defArgs s_Library_init, defBody s_Library_init, defScope s_Library_init, [], []⟩
def d_Library_modules : He.DefD := ⟨("Library", some "modules"), "modules", "Library.modules", defArgs s_Library_modules, defBody s_Library_modules, defScope s_Library_modules, [], []⟩
def d_Library_has_module : He.DefD := ⟨("Library", some "has_module"), "has_module", "Library.has_module", defArgs s_Library_has_module, defBody s_Library_has_module, defScope s_Library_has_module, [], []⟩
def d_Library_initializer : He.DefD := ⟨("Library", some "initializer"), "initializer", "Library.initializer", defArgs s_Library_initializer, defBody s_Library_initializer, defScope s_Library_initializer, [], []⟩
def d_library_text : He.DefD := ⟨("library_text", none), "library_text", "library_text", defArgs s_library_text, defBody s_library_text, defScope s_library_text, [], []⟩
def d_step_of_line : He.DefD := ⟨("step_of_line", none), "step_of_line", "step_of_line", defArgs s_step_of_line, defBody s_step_of_line, defScope s_step_of_line, [], []⟩
def d_step_lines_problem : He.DefD := ⟨("step_lines_problem", none), "step_lines_problem", "step_lines_problem", defArgs s_step_lines_problem, defBody s_step_lines_problem, defScope s_step_lines_problem, [], [("is_main", .bl false)]⟩
def d_module_of_line : He.DefD := ⟨("module_of_line", none), "module_of_line", "module_of_line", defArgs s_module_of_line, defBody s_module_of_line, defScope s_module_of_line, [], []⟩
def d_split_lines : He.DefD := ⟨("split_lines", none), "split_lines", "split_lines", defArgs s_split_lines, defBody s_split_lines, defScope s_split_lines, [], []⟩
def d_step_lines_after : He.DefD := ⟨("step_lines_after", none), "step_lines_after", "step_lines_after", defArgs s_step_lines_after, defBody s_step_lines_after, defScope s_step_lines_after, [], []⟩
def d_first_wrong : He.DefD := ⟨("first_wrong", none), "first_wrong", "first_wrong", defArgs s_first_wrong, defBody s_first_wrong, defScope s_first_wrong, [], []⟩
def d_load_library : He.DefD := ⟨("load_library", none), "load_library", "load_library", defArgs s_load_library, defBody s_load_library, defScope s_load_library, [], []⟩
def d_L_pot : He.DefD := ⟨("_law_pot", none), "_law_pot", "_law_pot", defArgs s_L_pot, defBody s_L_pot, defScope s_L_pot, [], []⟩
def d_L_draw : He.DefD := ⟨("_law_draw", none), "_law_draw", "_law_draw", defArgs s_L_draw, defBody s_L_draw, defScope s_L_draw, [], []⟩
def d_L_choice : He.DefD := ⟨("_law_choice", none), "_law_choice", "_law_choice", defArgs s_L_choice, defBody s_L_choice, defScope s_L_choice, [], []⟩
def d_L_word : He.DefD := ⟨("_law_word", none), "_law_word", "_law_word", defArgs s_L_word, defBody s_L_word, defScope s_L_word, [], []⟩
def d_L_words : He.DefD := ⟨("_law_words", none), "_law_words", "_law_words", defArgs s_L_words, defBody s_L_words, defScope s_L_words, [], []⟩
def d_L_mixed : He.DefD := ⟨("_law_mixed", none), "_law_mixed", "_law_mixed", defArgs s_L_mixed, defBody s_L_mixed, defScope s_L_mixed, [], []⟩
def d_L_integer : He.DefD := ⟨("_law_integer", none), "_law_integer", "_law_integer", defArgs s_L_integer, defBody s_L_integer, defScope s_L_integer, [], []⟩
def d_L_local_step : He.DefD := ⟨("_law_local_step", none), "_law_local_step", "_law_local_step", defArgs s_L_local_step, defBody s_L_local_step, defScope s_L_local_step, [], []⟩
def d_L_read_step : He.DefD := ⟨("_law_read_step", none), "_law_read_step", "_law_read_step", defArgs s_L_read_step, defBody s_L_read_step, defScope s_L_read_step, [], []⟩
def d_L_program : He.DefD := ⟨("_law_program", none), "_law_program", "_law_program", defArgs s_L_program, defBody s_L_program, defScope s_L_program, [], []⟩
def d_L_modules : He.DefD := ⟨("_law_modules", none), "_law_modules", "_law_modules", defArgs s_L_modules, defBody s_L_modules, defScope s_L_modules, [], []⟩
def d_L_is_label : He.DefD := ⟨("_law_is_label", none), "_law_is_label", "_law_is_label", defArgs s_L_is_label, defBody s_L_is_label, defScope s_L_is_label, [], []⟩
def d_L_is_number : He.DefD := ⟨("_law_is_number", none), "_law_is_number", "_law_is_number", defArgs s_L_is_number, defBody s_L_is_number, defScope s_L_is_number, [], []⟩
def d_L_step_read : He.DefD := ⟨("_law_step_read", none), "_law_step_read", "_law_step_read", defArgs s_L_step_read, defBody s_L_step_read, defScope s_L_step_read, [], []⟩
def d_L_head : He.DefD := ⟨("_law_head", none), "_law_head", "_law_head", defArgs s_L_head, defBody s_L_head, defScope s_L_head, [], []⟩
def d_L_block : He.DefD := ⟨("_law_block", none), "_law_block", "_law_block", defArgs s_L_block, defBody s_L_block, defScope s_L_block, [], []⟩
def d_L_is_wrong_step : He.DefD := ⟨("_law_is_wrong_step", none), "_law_is_wrong_step", "_law_is_wrong_step", defArgs s_L_is_wrong_step, defBody s_L_is_wrong_step, defScope s_L_is_wrong_step, [], []⟩
def d_L_is_wrong : He.DefD := ⟨("_law_is_wrong", none), "_law_is_wrong", "_law_is_wrong", defArgs s_L_is_wrong, defBody s_L_is_wrong, defScope s_L_is_wrong, [], []⟩
def d_L_wrong_line : He.DefD := ⟨("_law_wrong_line", none), "_law_wrong_line", "_law_wrong_line", defArgs s_L_wrong_line, defBody s_L_wrong_line, defScope s_L_wrong_line, [], []⟩
def d_L_line : He.DefD := ⟨("_law_line", none), "_law_line", "_law_line", defArgs s_L_line, defBody s_L_line, defScope s_L_line, [], []⟩
def d_L_changed : He.DefD := ⟨("_law_changed", none), "_law_changed", "_law_changed", defArgs s_L_changed, defBody s_L_changed, defScope s_L_changed, [], []⟩
def d_L_told : He.DefD := ⟨("_law_told", none), "_law_told", "_law_told", defArgs s_L_told, defBody s_L_told, defScope s_L_told, [], []⟩
def d_L_right : He.DefD := ⟨("_law_right", none), "_law_right", "_law_right", defArgs s_L_right, defBody s_L_right, defScope s_L_right, [], []⟩
def d_law : He.DefD := ⟨("law", none), "law", "law", defArgs s_law, defBody s_law, defScope s_law, [], []⟩
def fn : List He.DefD := [d_InvalidText_init, d_is_name, d_is_integer, d_is_variable, d_is_item, d_is_step, d_step_modules, d_is_wrong, d_first_problem, d_step_text, d_parse_integer, d_parse_step, d_check_library, d_Library_init, d_Library_modules, d_Library_has_module, d_Library_initializer, d_library_text, d_step_of_line, d_step_lines_problem, d_module_of_line, d_split_lines, d_step_lines_after, d_first_wrong, d_load_library] ++ ([d_L_pot, d_L_draw, d_L_choice, d_L_word, d_L_words, d_L_mixed, d_L_integer, d_L_local_step, d_L_read_step, d_L_program, d_L_modules, d_L_is_label, d_L_is_number, d_L_step_read, d_L_head, d_L_block, d_L_is_wrong_step, d_L_is_wrong, d_L_wrong_line, d_L_line, d_L_changed, d_L_told, d_L_right, d_law] : List He.DefD)
def fa : List He.Fa := ([.glo "is_name", .glo "is_integer", .glo "is_variable", .glo "is_item", .glo "is_step", .glo "step_modules", .glo "is_wrong", .glo "first_problem", .glo "step_text", .glo "parse_integer", .glo "parse_step", .glo "check_library", .glo "library_text", .glo "step_of_line", .glo "step_lines_problem", .glo "module_of_line", .glo "split_lines", .glo "step_lines_after", .glo "first_wrong", .glo "load_library", .glo "_law_pot", .glo "_law_draw", .glo "_law_choice", .glo "_law_word", .glo "_law_words", .glo "_law_mixed", .glo "_law_integer", .glo "_law_local_step", .glo "_law_read_step", .glo "_law_program"] : List He.Fa) ++ ([.glo "_law_modules", .glo "_law_is_label", .glo "_law_is_number", .glo "_law_step_read", .glo "_law_head", .glo "_law_block", .glo "_law_is_wrong_step", .glo "_law_is_wrong", .glo "_law_wrong_line", .glo "_law_line", .glo "_law_changed", .glo "_law_told", .glo "_law_right", .glo "law", .glo "InvalidText", .glo "LoaderError", .glo "InvalidCommand", .glo "InvalidLibrary", .glo "InvalidProgram", .glo "Library", .glo "FORMS", .glo "VARIABLES"] : List He.Fa) ++ ([.free "isinstance", .free "len", .free "all", .free "str", .free "int", .free "tuple", .free "zip", .free "enumerate", .free "list", .free "dict", .free "bool", .free "sorted", .free "abs", .free "max", .free "min", .free "divmod", .free "range", .free "repr", .int "MOST_LETTERS" 8, .int "MOST_STEPS" 30, .int "MOST_DIGITS" 4000, .int "MOST_MODULES" 40, .str "LETTERS" "abcdefghijklmnopqrstuvwxyz", .str "DIGITS" "0123456789", .str "HEAD" "module ", .str "INDENT" "  ", .cls "Library", .meth "Library" "modules", .meth "Library" "has_module", .meth "Library" "initializer", .mkr "Library", .noat "Library" "own_programs"] : List He.Fa)
def tab : List He.Tab := [(fun K => He.ga K "FORMS", ["set", "add", "skip", "export", "read", "need", "try", "fail"])]
def loose : List Str := (["__name__", "LoaderError", "InvalidProgram", "InvalidLibrary", "InvalidText", "InvalidCommand", "UnknownModule", "VARIABLES", "MOST_LETTERS", "LETTERS", "is_name", "is_integer", "is_variable", "MOST_STEPS", "MOST_DIGITS", "DIGITS", "FORMS", "is_item", "is_step", "step_modules", "is_wrong", "first_problem", "step_text", "parse_integer", "parse_step", "MOST_MODULES", "check_library", "Library", "HEAD", "INDENT"] : List Str) ++ (["library_text", "step_of_line", "step_lines_problem", "module_of_line", "split_lines", "step_lines_after", "first_wrong", "load_library", "_law_pot", "_law_draw", "_law_choice", "_law_word", "_law_words", "_law_mixed", "_law_integer", "_law_local_step", "_law_read_step", "_law_program", "_law_modules", "_law_is_label", "_law_is_number", "_law_step_read", "_law_head", "_law_block", "_law_is_wrong_step", "_law_is_wrong", "_law_wrong_line", "_law_line", "_law_changed", "_law_told"] : List Str) ++ (["_law_right"] : List Str)
abbrev R : PySem.W.OpenRow := PySem.W.OpenLaw.row PySem.Challenge.rw_cycleready_k17_whole_library_texts_spoil
abbrev aIT (K : PySem.W.Frag) : Addr := He.ga K "InvalidText"
abbrev aLE (K : PySem.W.Frag) : Addr := He.ga K "LoaderError"
def exB (K : PySem.W.Frag) : Bool := oexB K (aIT K) && (PySem.W.readsIn K (aLE K) (.type "type") && (decide (PySem.W.specialIn K (.ref (aLE K)) "__getattribute__" = some (some (.builtin "type.__getattribute__"))) &&
  ((match PySem.W.findCls K (.ref (aLE K)) (.type "type") "__init__" with
    | some (.val (.builtin n)) => n == "ValueError.__init__"
    | _ => false) && (decide (PySem.W.findIn K (.ref (aIT K)) "line" = some none) && (decide (PySem.W.findIn K (.ref (aIT K)) "__init__" = some (some (.ref (He.ma K (aIT K) "__init__")))) && (decide (PySem.W.typeIn K (.ref (He.ma K (aIT K) "__init__")) = some (.type "function")) &&
  (tupB K (He.ga K "VARIABLES") ["a", "b", "c", "d"] && (formB K (He.ga K "FORMS") && (keysB K (He.ga K "FORMS") && (xisB K (aIT K) && (xfB K (aIT K) &&
  (decide (PySem.W.kitAny K (.ref (aIT K)) [.ref (He.ga K "InvalidCommand"), .ref (He.ga K "InvalidLibrary"), .ref (He.ga K "InvalidProgram")] = some false) && (decide (PySem.W.kitOne K (.ref (aIT K)) (.ref (aLE K)) = some true) &&
  decide (PySem.W.exmOne K (.ref (aIT K)) (.ref (aIT K)) = some true))))))))))))))
def asY (g : Addr → Option Obj) : List Addr := cStatics :: He.asD g 4
abbrev AlY : Type := He.AlT × Bool
def obsY (g : Addr → Option Obj) : AlY := (He.obsT fa fn tab (He.frT g (asY g)), exB (He.frT g (asY g)))
def hk : PySem.W.Hook where
  α := AlY
  obs := fun s => obsY s.heap.get?
  val := fun w => (He.valT fn tab w, true)
  says := fun w h => ∃ K : PySem.W.Frag, K.In h ∧ He.SaysT fa fn tab w K ∧ exB K = true
  of := fun _ _ e => ⟨_, He.frT_in, congrArg (fun z : AlY => z.1) e, congrArg (fun z : AlY => z.2) e⟩
  keeps := fun _ _ _ ⟨K, hK, c⟩ k => ⟨K, PySem.W.Frag.In.keeps hK k, c⟩
def ob (s : PySem.W.SharedT) : AlY := obsY (HandSHeadRun.getT s)
theorem ob_eq (s : PySem.W.SharedT) : ob s = hk.obs s.abs := by
  have e : HandSHeadRun.getT s = s.abs.heap.get? := funext (HandSHeadRun.getT_eq s)
  show obsY (HandSHeadRun.getT s) = obsY s.abs.heap.get?
  rw [e]
theorem run0 (w : World) : HandSHeadRun.RunEq R (PySem.W.view R.prog [66]) hk ob 6000 loose (w.withFollow "special-get-raises" false) := by
  intro os
  kernel_rfl
theorem run1 (w : World) : HandSHeadRun.RunEq R (PySem.W.view R.prog [66]) hk ob 6000 loose (w.withFollow "special-get-raises" true) := by
  intro os
  kernel_rfl
theorem run (w : World) : HandSHeadRun.RunEq R (PySem.W.view R.prog [66]) hk ob 6000 loose w :=
  PySem.W.byRow2 "special-get-raises" (P := fun w => HandSHeadRun.RunEq R (PySem.W.view R.prog [66]) hk ob 6000 loose w) run0 run1 w
end K17

-- text K17P3
set_option maxHeartbeats 8000000
namespace K17
open PySem PySem.Spec PyProof.Rows L2 Evl
variable {P : Program} {w : World} {K : PySem.W.Frag} {mg : Str → Option Value} {base : Heap} {d : Ad}
/-! ## parse_integer -/
def numV (l : List Nat) : V := if numB l = true then .int (numI l) else .non
def spPInt : Sp := fun vs H Q _ => ∃ x : Str, vs = [.str x] ∧ x.length ≤ 30 ∧ ∀ H', Ex H H' → Q (numV (tl x)) H'
theorem str_eq_tl {x y : Str} : x = y ↔ tl x = tl y := ⟨fun h => by rw [h], TL.ext_tl⟩
theorem dec_str_tl (x y : Str) : decide (x = y) = decide (tl x = tl y) := by
  rw [Bool.eq_iff_iff, decide_eq_true_eq, decide_eq_true_eq]
  exact str_eq_tl
theorem tl_minus : tl (Str.ofString "-") = [45] := by decide +kernel
theorem tl_empty : tl (Str.ofString "") = [] := by decide +kernel
theorem o_parse_integer (T : Tx w K mg d) (F : Fd K mg "parse_integer" s_parse_integer []) : Ok0 P w K mg base 3 "parse_integer" ["word"] spPInt := by
  refine mkOk 2 F sc_parse_integer (fun _ _ _ _ _ _ us hl => match us, hl with | [_], _ => rfl) (fun vs H Q E h => by obtain ⟨x, rfl, _⟩ := h; rfl) fun f cdv A outer s H vs Q E hr h => ?_
  obtain ⟨x, rfl, hx, hQ⟩ := h
  refine ⟨_, PSs.nox (pss_cons (ps_set (i := 1) sc_parse_integer.nd rfl (.inl rfl) (pe_ifExp (pt_cmpR op_eq (pe_slice sl_str (pv 0) po_none (po_some pe_int)) pe_str (nomark _)) (pe_slice sl_str (pv 0) (po_some pe_int) po_none) (pv 0)))
    (pss_cons (ps_if (PW.pt (pw_or (pt_cmpR op_eq (pv 1) pe_str (nomark _)) (pw_or (pt_cmpR op_gt (pe_callB call_len_str (by rfl) T.b_len (by decide +kernel) (pa_cons (pv 1) pa_nil)) (pe_gi T.c_MOST_DIGITS) (nomark _)) (pw_or1 (pt_not (pt_val (pe_callB (cr_all rfl) (by rfl) T.b_all (by decide +kernel) (pa_cons (pe_lc (own := [("sign", 3)]) rfl sc_parse_integer.nd (pi_str (pv 1)) (blkOk_by (own := [("sign", 3)]) (N := n_parse_integer) (sc := defScope s_parse_integer) (by decide +kernel)) (fun _ _ _ _ _ => (pg_name (i := 3) sc_parse_integer.nd rfl (Or.inl rfl))) (fun _ _ _ _ _ => pts_nil) (fun _ _ _ _ _ => (pe_cmpR op_in_sign (pv 3) (pe_gs T.c_DIGITS) (by rfl)))) pa_nil)))))))) (pss_one (ps_ret pe_non)) pss_nil)
    (pss_cons (ps_set (i := 2) sc_parse_integer.nd rfl (.inl rfl) (pe_callTy call_int_str (by rfl) T.b_int (by decide +kernel) (pa_cons (pv 0) pa_nil)))
    (pss_one (ps_ret (pe_ifExp (pt_cmpR op_eq (pe_callTy call_str_int (by rfl) T.b_str (by decide +kernel) (pa_cons (pv 2) pa_nil)) (pv 0) (nomark _)) (pv 2) pe_non)))))), ?_⟩
  try simp only [rSlS, n_parse_integer, L2.start, cxK, cxW, cxK', cxW', is_ss, is_si, is_ii, is_ib, is_is, is_bs, is_ns, is_ni, is_nt, Bool.not_false, Bool.not_true, tSeq, tIfS, tRet, tRetN, tNext, tNever, tAsg, gName, tVar, tC, tOp, tUn, tCons, tNil, tCB, tCall, tTest, tB, tAnd, tOr, tNot, tAndV, tOrV, tNotV, tIf, tChain, rI0, rI, rU, rEq, rNe, List.map_cons, List.map_nil, List.length_cons, List.length_nil, List.replicate, List.cons_append, List.nil_append, List.append_nil, List.getElem?_cons_zero, List.getElem?_cons_succ, List.set_cons_zero, List.set_cons_succ, Option.some.injEq, exists_eq_left', exists_eq_left, exists_eq_right, V.str.injEq, V.int.injEq, V.bl.injEq, V.ref.injEq, V.ty.injEq, List.cons.injEq, and_true, true_and, exists_and_left, Nat.zero_add, Nat.add_sub_cancel, Nat.sub_self, Nat.succ_sub_succ_eq_sub, Nat.reduceSub, Nat.reduceAdd, Nat.sub_zero, tYes, tSl, tPart, tNoPart, if_true, Bool.false_eq_true, if_false, reduceCtorEq, false_and, exists_false, or_false, false_or, scal, tLc_eq, tFor_eq, iStr, iList, iTup, RZ.iZipA, decide_false, decide_true, tM1, tM0, tDrop]
  have hx0 : x.length ≤ sizeLine := small' (by omega)
  refine ⟨hx0, ?_⟩
  have el : x.length = (tl x).length := TL.len_tl x
  have hdl : (digsL (tl x)).length ≤ 30 := by
    unfold digsL
    split
    · rw [List.length_tail]; omega
    · omega
  have tail : ∀ z : Str, tl z = digsL (tl x) → (if decide (z = Str.ofString "") = true then Q V.non H else z.length ≤ sizeLine ∧ if decide (4000 < (z.length : Int)) = true then Q V.non H else
      LcW (Its z) (gName 3) tYes (tOp (fun x y H Q => ∃ c, x = V.str { cps := #[c] } ∧ ∃ x, y = V.str x ∧ Q (V.bl (decide (c ∈ x.cps.toList))) H) (tVar 3) (tC (V.str (Str.ofString "0123456789")))) [3]
        [some (V.str x), some (V.str z), none, none] H fun x_1 H1 => rAll K [x_1] H1 fun x_2 H1 => ∃ c, x_2 = V.bl c ∧ if (!c) = true then Q V.non H1 else
          ∃ x_3, intText? x = some x_3 ∧ x.length ≤ 640 ∧ x_3.natAbs.log2 < 1920 ∧ if decide (Str.ofString (toString x_3) = x) = true then Q (V.int x_3) H1 else Q V.non H1) := by
    intro z hz
    have hzl : z.length = (tl z).length := TL.len_tl z
    rw [hz] at hzl
    by_cases h0 : digsL (tl x) = []
    · rw [if_pos (by rw [dec_str_tl, hz, tl_empty, h0]; rfl)]
      have q := hQ H (Ex.refl _)
      have e : numV (tl x) = .non := by unfold numV numB; rw [h0]; rfl
      rw [e] at q
      exact q
    · rw [if_neg (by rw [dec_str_tl, hz, tl_empty]; simpa using h0)]
      refine ⟨small' (by omega), ?_⟩
      rw [if_neg (by simp; omega)]
      refine lcMA (gv := sgV) (goes_strV (small (by omega))) (fun _ _ => trivial) (fun c => .bl (isDig c)) (fun c hc H1 e Q' q => ?_) (fun D H2 h1' h2 h3 => ?_) (fun o => rfl)
      · simp only [wipe, is_ss, is_si, is_ii, is_ib, is_is, is_bs, is_ns, is_ni, is_nt, Bool.not_false, Bool.not_true, tSeq, tIfS, tRet, tRetN, tNext, tNever, tAsg, gName, tVar, tC, tOp, tUn, tCons, tNil, tCB, tCall, tTest, tB, tAnd, tOr, tNot, tAndV, tOrV, tNotV, tIf, tChain, rI0, rI, rU, rEq, rNe, List.map_cons, List.map_nil, List.length_cons, List.length_nil, List.replicate, List.cons_append, List.nil_append, List.append_nil, List.getElem?_cons_zero, List.getElem?_cons_succ, List.set_cons_zero, List.set_cons_succ, Option.some.injEq, exists_eq_left', exists_eq_left, exists_eq_right, V.str.injEq, V.int.injEq, V.bl.injEq, V.ref.injEq, V.ty.injEq, List.cons.injEq, and_true, true_and, exists_and_left, Nat.zero_add, Nat.add_sub_cancel, Nat.sub_self, Nat.succ_sub_succ_eq_sub, Nat.reduceSub, Nat.reduceAdd, Nat.sub_zero, tYes, tSl, tPart, tNoPart, if_true, Bool.false_eq_true, if_false, reduceCtorEq, false_and, exists_false, or_false, false_or, scal, tLc_eq, tFor_eq, iStr, iList, iTup, RZ.iZipA, decide_false, decide_true, tM1, tM0, tDrop]
        refine ⟨c, rfl, ?_⟩
        rw [digits_dig]
        exact q H1 (Ex.refl _)
      · have hz' : TL.tl z = digsL (tl x) := hz
        rw [hz'] at h3
        refine allQ (bs := (digsL (tl x)).map isDig) (by rw [List.map_map]; exact h3) ⟨_, rfl, ?_⟩
        have q := hQ H2 h2
        have e3 : ((digsL (tl x)).map isDig).all id = (digsL (tl x)).all isDig := by rw [List.all_map]; rfl
        rw [e3]
        cases hd : (digsL (tl x)).all isDig with
        | false =>
          have e : numV (tl x) = .non := by unfold numV numB; rw [hd]; simp
          rw [e] at q
          exact q
        | true =>
          refine ⟨numI (tl x), int_reads hd h0 (by omega), by omega, numI_small hd (by omega), ?_⟩
          have e5 := num_back hd h0
          have e6 : decide (Str.ofString (toString (numI (tl x))) = x) = decide (TL.tl (Str.ofString (toString (numI (tl x)))) = tl x) := dec_str_tl _ _
          have e7 : (digsL (tl x)).isEmpty = false := by
            cases qq : digsL (tl x) with
            | nil => exact absurd qq h0
            | cons _ _ => rfl
          rw [e6, e5]
          unfold numV numB at q
          rw [hd, e7] at q
          simp only [Bool.not_false, Bool.true_and] at q
          cases hk : (decide (tl x = [48]) || decide ((digsL (tl x)).head? ≠ some 48)) with
          | true => rw [hk] at q; exact q
          | false => rw [hk] at q; exact q
  have e1 : tl (cutS x none (some 1)) = (tl x).take 1 := tl_cut_to x 1
  have e2 : tl (cutS x (some 1) none) = (tl x).drop 1 := tl_cut_from x 1
  by_cases h : (tl x).head? = some 45
  · have h2 : (tl x).take 1 = [45] := by
      cases q : tl x with
      | nil => rw [q] at h; cases h
      | cons c r => rw [q] at h; cases h; rfl
    rw [if_pos (by rw [dec_str_tl, e1, tl_minus, h2]; rfl)]
    exact ⟨hx0, tail _ (by rw [e2, List.drop_one]; unfold digsL; rw [if_pos h])⟩
  · have h2 : ¬ (tl x).take 1 = [45] := by
      intro z
      apply h
      cases q : tl x with
      | nil => rw [q] at z; cases z
      | cons c r => rw [q] at z; cases z; rfl
    rw [if_neg (by rw [dec_str_tl, e1, tl_minus]; simpa using h2)]
    exact tail _ (by unfold digsL; rw [if_neg h])

end K17

-- text K17P4
set_option maxHeartbeats 8000000
namespace K17
open PySem PySem.Spec PyProof.Rows L2 Evl
variable {P : Program} {w : World} {K : PySem.W.Frag} {mg : Str → Option Value} {base : Heap} {d : Ad}
/-! ## parse_step, step_of_line -/
def convV (k : Str) (x : Str) : V := if k = Str.ofString "integer" ∨ k = Str.ofString "amount" then numV (tl x) else .str x
def convL (ks items : List Str) : List V := (ks.zip items).map fun q => convV q.1 q.2
/-- what a line's words read as -/
def readW (ws : List Str) : Option (List V) := match ws with
  | [] => none
  | wd :: items => match formK wd with
    | none => none
    | some ks => if items.length = ks.length ∧ stepB ks (convL ks items) = true then some (.str wd :: convL ks items) else none
theorem readW_none {wd : Str} {items : List Str} (hk : formK wd = none) : readW (wd :: items) = none := by
  show (match formK wd with | none => none | some ks => _) = _
  rw [hk]
theorem readW_of {wd : Str} {items ks : List Str} (hk : formK wd = some ks) : readW (wd :: items) = if items.length = ks.length ∧ stepB ks (convL ks items) = true then some (.str wd :: convL ks items) else none := by
  show (match formK wd with | none => none | some ks => _) = _
  rw [hk]
abbrev wordsS (x : Str) : List Str := Txt.split x (Str.ofString " ")
def spPStep (it : Addr) : Sp := fun vs H Q E => ∃ x : Str, vs = [.str x] ∧ x.length ≤ 3000000 ∧ (∀ y ∈ wordsS x, y.length ≤ 30) ∧
  (∀ items, readW (wordsS x) = some items → ∀ p H', Ex H H' → H' p = some (.tup items) → Q (.ref p) H') ∧ (readW (wordsS x) = none → RaisesIt it 1 H E)
theorem conv_ok (k : Str) (x : Str) (hx : x.length ≤ 30) : ItOk k (convV k x) := by
  unfold ItOk convV
  by_cases h : k = Str.ofString "integer" ∨ k = Str.ofString "amount"
  · rw [if_pos h, if_pos h]
    unfold numV
    split
    · exact .inl ⟨_, rfl⟩
    · exact .inr rfl
  · rw [if_neg h, if_neg h]
    exact ⟨x, rfl, by omega⟩
theorem wordsS_ne (x : Str) : wordsS x ≠ [] := by
  have h := TL.split_spl x (Str.ofString " ") (by rw [show TL.tl (Str.ofString " ") = [32] by decide +kernel]; decide) (TL.kind_ok (by decide +kernel))
  intro e
  rw [show Txt.split x (Str.ofString " ") = [] from e] at h
  have q : ∀ (S : List Nat) (l acc : List Nat) (k : Nat), TL.spl S k acc l ≠ [] := by
    intro S l
    induction l with
    | nil => intro acc k; rw [TL.spl_nil]; simp
    | cons c r ih =>
      intro acc k z
      cases k with
      | zero =>
        cases hp : TL.pre S (c :: r) with
        | true => rw [TL.spl_hit hp] at z; cases z
        | false => rw [TL.spl_miss hp] at z; exact ih _ _ z
      | succ k =>
        rw [TL.spl_pass] at z
        have z2 : TL.spl S k acc r = [] := by
          rw [TL.spl_pass]
          simpa using z
        exact ih _ _ z2
  exact q _ _ _ _ h.symm
theorem o_parse_step (T : Tx w K mg d) (F : Fd K mg "parse_step" s_parse_step []) (tI : Tit P w K mg base d.it) (o_parse_integer : Ok0 P w K mg base 3 "parse_integer" ["word"] spPInt) (o_is_step : Ok0 P w K mg base 5 "is_step" ["value"] spStep) :
    Ok P w K mg base (L2.CX P w) 6 "parse_step" ["text"] (spPStep d.it) := by
  refine mkOk 5 F sc_parse_step (fun _ _ _ _ _ _ us hl => match us, hl with | [_], _ => rfl) (fun vs H Q E h => by obtain ⟨x, rfl, _⟩ := h; rfl) fun f cdv A outer s H vs Q E hr h => ?_
  obtain ⟨x, rfl, hx, hw, hQ, hE⟩ := h
  refine ⟨_, (pss_cons (ps_if (pt_not (pt_val (pe_callB call_isV (by rfl) T.b_isinstance (by decide +kernel) (pa_cons (pv 0) (pa_cons (pe_bltn (v := .ty "str") (u := .type "str") (by rfl) T.b_str (by decide +kernel) rfl) pa_nil))))) (pss_one (ps_raise rfl (takes_of rfl rfl rfl rfl) (pmk_it tI (hr.mono (by decide)) (pa_cons pe_int pa_nil)))) pss_nil)
    (pss_cut (ps_asg (pe_split (pv 0) pe_str) (pg_star2 rfl (pgs_cons (pg_name (i := 1) sc_parse_step.nd rfl (.inl rfl)) (pgs_cons (pg_name (i := 2) sc_parse_step.nd rfl (.inl rfl)) pgs_nil))))
    (pss_cut (ps_set (i := 3) sc_parse_step.nd rfl (.inl rfl) (pe_kget2 (pe_gr T.c_FORMS) (pv 1) (pe_tup pa_nil) ⟨by rfl, by rfl, by rfl, by rfl⟩))
    (pss_cons (ps_if (PW.pt (pw_or (pt_cmpR op_notIn_kx (pv 1) (pe_gr T.c_FORMS) (by rfl)) (pw_or1 (pt_cmpR op_ne (pe_callB call_len_seq (by rfl) T.b_len (by decide +kernel) (pa_cons (pv 2) pa_nil)) (pe_callB call_len_seq (by rfl) T.b_len (by decide +kernel) (pa_cons (pv 3) pa_nil)) (nomark _))))) (pss_one (ps_raise rfl (takes_of rfl rfl rfl rfl) (pmk_it tI (hr.mono (by decide)) (pa_cons pe_int pa_nil)))) pss_nil)
    (pss_cons (ps_set (i := 4) sc_parse_step.nd rfl (.inl rfl) (pe_lst pa_nil))
    (pss_cut (ps_for (passes_of rfl) rfl (pi_zipM (by rfl) T.b_zip (pa_cons (pv 3) (pa_cons (pv 2) pa_nil))) (pg_two K (i := 5) (j := 6) sc_parse_step.nd rfl rfl (.inl rfl) (.inl rfl) rfl) (pss_one (ps_expr (pe_bm PySem.F.plainAttrs_list PySem.F.slot_list_append PySem.F.type_list_append mt_append (pv 4) (pa_cons (pe_ifExp (pt_cmpR op_in_seq (pv 5) (pe_tup (pa_cons pe_str (pa_cons pe_str pa_nil))) (by rfl)) (pe_c o_parse_integer (hr.mono (by decide)) pass0 (pa_cons (pv 6) pa_nil)) (pv 6)) pa_nil)))))
    (pss_cut (ps_set (i := 7) sc_parse_step.nd rfl (.inl rfl) (pe_callTy call_tuple_of (by rfl) T.b_tuple (by decide +kernel) (pa_cons (pe_op op_cat (pe_lst (pa_cons (pv 1) pa_nil)) (pv 4)) pa_nil)))
    (pss_cons (ps_if (pt_not (pt_val (pe_c o_is_step (hr.mono (by decide)) pass0 (pa_cons (pv 7) pa_nil)))) (pss_one (ps_raise rfl (takes_of rfl rfl rfl rfl) (pmk_it tI (hr.mono (by decide)) (pa_cons pe_int pa_nil)))) pss_nil)
    (pss_one (ps_ret (pv 7))))))))))), ?_⟩
  have e6 : (Str.ofString " ").length = 1 := by decide +kernel
  try simp only [n_parse_step, L2.start, cxK, cxW, cxK', cxW', is_ss, is_si, is_ii, is_ib, is_is, is_bs, is_ns, is_ni, is_nt, Bool.not_false, Bool.not_true, tSeq, tIfS, tRet, tRetN, tNext, tNever, tAsg, gName, tVar, tC, tOp, tUn, tCons, tNil, tCB, tCall, tTest, tB, tAnd, tOr, tNot, tAndV, tOrV, tNotV, tIf, tChain, rI0, rI, rU, rEq, rNe, List.map_cons, List.map_nil, List.length_cons, List.length_nil, List.replicate, List.cons_append, List.nil_append, List.append_nil, List.getElem?_cons_zero, List.getElem?_cons_succ, List.set_cons_zero, List.set_cons_succ, Option.some.injEq, exists_eq_left', exists_eq_left, exists_eq_right, V.str.injEq, V.int.injEq, V.bl.injEq, V.ref.injEq, V.ty.injEq, List.cons.injEq, and_true, true_and, exists_and_left, Nat.zero_add, Nat.add_sub_cancel, Nat.sub_self, Nat.succ_sub_succ_eq_sub, Nat.reduceSub, Nat.reduceAdd, Nat.sub_zero, tYes, tSl, tPart, tNoPart, if_true, Bool.false_eq_true, if_false, reduceCtorEq, false_and, exists_false, or_false, false_or, scal, tLc_eq, tFor_eq, iStr, iList, iTup, RZ.iZipA, decide_false, decide_true, tM1, tM0, tDrop]
  -- word, *items
  refine ⟨fun σ' H' => ∃ q wd items, wordsS x = wd :: items ∧ σ' = [some (V.str x), some (V.str wd), some (V.ref q), none, none, none, none, none] ∧ H' q = some (.lst (items.map V.str)) ∧ Ex H H', ?_, ?_⟩
  · try simp only [rNewStrs, gStar2, gCons, gNil, is_ss, is_si, is_ii, is_ib, is_is, is_bs, is_ns, is_ni, is_nt, Bool.not_false, Bool.not_true, tSeq, tIfS, tRet, tRetN, tNext, tNever, tAsg, gName, tVar, tC, tOp, tUn, tCons, tNil, tCB, tCall, tTest, tB, tAnd, tOr, tNot, tAndV, tOrV, tNotV, tIf, tChain, rI0, rI, rU, rEq, rNe, List.map_cons, List.map_nil, List.length_cons, List.length_nil, List.replicate, List.cons_append, List.nil_append, List.append_nil, List.getElem?_cons_zero, List.getElem?_cons_succ, List.set_cons_zero, List.set_cons_succ, Option.some.injEq, exists_eq_left', exists_eq_left, exists_eq_right, V.str.injEq, V.int.injEq, V.bl.injEq, V.ref.injEq, V.ty.injEq, List.cons.injEq, and_true, true_and, exists_and_left, Nat.zero_add, Nat.add_sub_cancel, Nat.sub_self, Nat.succ_sub_succ_eq_sub, Nat.reduceSub, Nat.reduceAdd, Nat.sub_zero, tYes, tSl, tPart, tNoPart, if_true, Bool.false_eq_true, if_false, reduceCtorEq, false_and, exists_false, or_false, false_or, scal, tLc_eq, tFor_eq, iStr, iList, iTup, RZ.iZipA, decide_false, decide_true, tM1, tM0, tDrop]
    refine ⟨⟨_, rfl⟩, by rw [e6]; rfl, small' (by omega), fun p hp => ?_⟩
    obtain ⟨wd, items, hws⟩ : ∃ wd items, wordsS x = wd :: items := by
      cases q : wordsS x with
      | nil => exact absurd q (wordsS_ne x)
      | cons a b => exact ⟨a, b, rfl⟩
    refine ⟨V.str wd, items.map V.str, SqL.of (by rw [upd_same, show Txt.split x (Str.ofString " ") = wd :: items from hws]; rfl), fun q hq => ⟨_, _, ⟨rfl, rfl⟩, _, _, rfl, rfl, q, wd, items, hws, ⟨rfl, rfl⟩, upd_same, (Ex.new hp).trans (Ex.new hq)⟩⟩
  · rintro σ' H1 ⟨q, wd, items, hws, rfl, hq, e1⟩
    try simp only [is_ss, is_si, is_ii, is_ib, is_is, is_bs, is_ns, is_ni, is_nt, Bool.not_false, Bool.not_true, tSeq, tIfS, tRet, tRetN, tNext, tNever, tAsg, gName, tVar, tC, tOp, tUn, tCons, tNil, tCB, tCall, tTest, tB, tAnd, tOr, tNot, tAndV, tOrV, tNotV, tIf, tChain, rI0, rI, rU, rEq, rNe, List.map_cons, List.map_nil, List.length_cons, List.length_nil, List.replicate, List.cons_append, List.nil_append, List.append_nil, List.getElem?_cons_zero, List.getElem?_cons_succ, List.set_cons_zero, List.set_cons_succ, Option.some.injEq, exists_eq_left', exists_eq_left, exists_eq_right, V.str.injEq, V.int.injEq, V.bl.injEq, V.ref.injEq, V.ty.injEq, List.cons.injEq, and_true, true_and, exists_and_left, Nat.zero_add, Nat.add_sub_cancel, Nat.sub_self, Nat.succ_sub_succ_eq_sub, Nat.reduceSub, Nat.reduceAdd, Nat.sub_zero, tYes, tSl, tPart, tNoPart, if_true, Bool.false_eq_true, if_false, reduceCtorEq, false_and, exists_false, or_false, false_or, scal, tLc_eq, tFor_eq, iStr, iList, iTup, RZ.iZipA, decide_false, decide_true, tM1, tM0, tDrop]
    refine ⟨fun σ' H' => ∃ kp, σ' = [some (V.str x), some (V.str wd), some (V.ref q), some (V.ref kp), none, none, none, none] ∧ SqT K H' kp (((formK wd).getD []).map V.str) ∧ H' q = some (.lst (items.map V.str)) ∧ Ex H H', ?_, ?_⟩
    · try simp only [tKGet2, tTup, is_ss, is_si, is_ii, is_ib, is_is, is_bs, is_ns, is_ni, is_nt, Bool.not_false, Bool.not_true, tSeq, tIfS, tRet, tRetN, tNext, tNever, tAsg, gName, tVar, tC, tOp, tUn, tCons, tNil, tCB, tCall, tTest, tB, tAnd, tOr, tNot, tAndV, tOrV, tNotV, tIf, tChain, rI0, rI, rU, rEq, rNe, List.map_cons, List.map_nil, List.length_cons, List.length_nil, List.replicate, List.cons_append, List.nil_append, List.append_nil, List.getElem?_cons_zero, List.getElem?_cons_succ, List.set_cons_zero, List.set_cons_succ, Option.some.injEq, exists_eq_left', exists_eq_left, exists_eq_right, V.str.injEq, V.int.injEq, V.bl.injEq, V.ref.injEq, V.ty.injEq, List.cons.injEq, and_true, true_and, exists_and_left, Nat.zero_add, Nat.add_sub_cancel, Nat.sub_self, Nat.succ_sub_succ_eq_sub, Nat.reduceSub, Nat.reduceAdd, Nat.sub_zero, tYes, tSl, tPart, tNoPart, if_true, Bool.false_eq_true, if_false, reduceCtorEq, false_and, exists_false, or_false, false_or, scal, tLc_eq, tFor_eq, iStr, iList, iTup, RZ.iZipA, decide_false, decide_true, tM1, tM0, tDrop]
      refine ⟨T.fdic, Nat.zero_le _, fun p hp => ?_⟩
      have e2 : Ex H1 (upd H1 p (.tup [])) := Ex.new hp
      cases hk : formK wd with
      | none => exact .inr ⟨T.fnone wd hk, SqT.of upd_same, e2 q _ hq, e1.trans e2⟩
      | some ks =>
        obtain ⟨kp, h1, h2⟩ := T.flow wd ks hk
        exact .inl ⟨.ref kp, h1, .ref kp, rfl, kp, rfl, h2 _, e2 q _ hq, e1.trans e2⟩
    · rintro σ' H2 ⟨kp, rfl, hkp, hq2, e2⟩
      have hR : ∀ H', Ex H H' → readW (wordsS x) = none → MkO d.it (spTI d.it) [V.int 1] H' fun cls d H' => E cls d H' := fun H' e hn => mkO_it (by decide) fun dd H3 e3 h3 => hE hn dd H3 (e.trans e3) h3
      rw [hws] at hQ hR hw
      try simp only [tLst, tMkO_eq, is_ss, is_si, is_ii, is_ib, is_is, is_bs, is_ns, is_ni, is_nt, Bool.not_false, Bool.not_true, tSeq, tIfS, tRet, tRetN, tNext, tNever, tAsg, gName, tVar, tC, tOp, tUn, tCons, tNil, tCB, tCall, tTest, tB, tAnd, tOr, tNot, tAndV, tOrV, tNotV, tIf, tChain, rI0, rI, rU, rEq, rNe, List.map_cons, List.map_nil, List.length_cons, List.length_nil, List.replicate, List.cons_append, List.nil_append, List.append_nil, List.getElem?_cons_zero, List.getElem?_cons_succ, List.set_cons_zero, List.set_cons_succ, Option.some.injEq, exists_eq_left', exists_eq_left, exists_eq_right, V.str.injEq, V.int.injEq, V.bl.injEq, V.ref.injEq, V.ty.injEq, List.cons.injEq, and_true, true_and, exists_and_left, Nat.zero_add, Nat.add_sub_cancel, Nat.sub_self, Nat.succ_sub_succ_eq_sub, Nat.reduceSub, Nat.reduceAdd, Nat.sub_zero, tYes, tSl, tPart, tNoPart, if_true, Bool.false_eq_true, if_false, reduceCtorEq, false_and, exists_false, or_false, false_or, scal, tLc_eq, tFor_eq, iStr, iList, iTup, RZ.iZipA, decide_false, decide_true, tM1, tM0, tDrop]
      refine ⟨T.fdic, ?_⟩
      cases hk : formK wd with
      | none =>
        refine ⟨none, T.fnone wd hk, ?_⟩
        rw [if_pos (by rfl)]
        exact hR H2 e2 (readW_none hk)
      | some ks =>
        have hkp : SqT K H2 kp (ks.map V.str) := by rw [hk] at hkp; exact hkp
        obtain ⟨es, n, u, hd1, hd2, hd3, hd4⟩ := (T.kdct hk).choose_spec.1
        refine ⟨some u, hd3, ?_⟩
        rw [if_neg (by simp)]
        refine ⟨_, .inl (SqL.of hq2), _, .inr hkp, ?_⟩
        have hks := forms_short hk
        by_cases hl : items.length = ks.length
        · rw [if_neg (by simp [hl])]
          refine ⟨Nat.zero_le _, fun pp hpp => ?_⟩
          have e3 : Ex H2 (upd H2 pp (.lst [])) := Ex.new hpp
          have hcl : (convL ks items).length = ks.length := by
            unfold convL
            rw [List.length_map, List.length_zip, hl, Nat.min_self]
          have hwl : ∀ y ∈ items, y.length ≤ 30 := fun y hy => hw y (List.mem_cons_of_mem _ hy)
          refine ⟨fun σ' H' => (∃ u v, σ' = [some (V.str x), some (V.str wd), some (V.ref q), some (V.ref kp), some (V.ref pp), u, v, none]) ∧ Ex H2 H' ∧ H' pp = some (.lst (convL ks items)), ?_, ?_⟩
          · try simp only [iZipM, is_ss, is_si, is_ii, is_ib, is_is, is_bs, is_ns, is_ni, is_nt, Bool.not_false, Bool.not_true, tSeq, tIfS, tRet, tRetN, tNext, tNever, tAsg, gName, tVar, tC, tOp, tUn, tCons, tNil, tCB, tCall, tTest, tB, tAnd, tOr, tNot, tAndV, tOrV, tNotV, tIf, tChain, rI0, rI, rU, rEq, rNe, List.map_cons, List.map_nil, List.length_cons, List.length_nil, List.replicate, List.cons_append, List.nil_append, List.append_nil, List.getElem?_cons_zero, List.getElem?_cons_succ, List.set_cons_zero, List.set_cons_succ, Option.some.injEq, exists_eq_left', exists_eq_left, exists_eq_right, V.str.injEq, V.int.injEq, V.bl.injEq, V.ref.injEq, V.ty.injEq, List.cons.injEq, and_true, true_and, exists_and_left, Nat.zero_add, Nat.add_sub_cancel, Nat.sub_self, Nat.succ_sub_succ_eq_sub, Nat.reduceSub, Nat.reduceAdd, Nat.sub_zero, tYes, tSl, tPart, tNoPart, if_true, Bool.false_eq_true, if_false, reduceCtorEq, false_and, exists_false, or_false, false_or, scal, tLc_eq, tFor_eq, iStr, iList, iTup, RZ.iZipA, decide_false, decide_true, tM1, tM0, tDrop]
            have hq3 := e3 q _ hq2
            refine ⟨kp, q, ⟨rfl, rfl⟩, ks.map V.str, exT e3 hkp, items.map V.str, SqL.of hq3, ?_⟩
            have hlen : (ks.map V.str).length = (items.map V.str).length := by rw [List.length_map, List.length_map, hl]
            obtain ⟨Pv, hPv⟩ : ∃ P0 : Nat → L2.St → Hp → Prop, ∀ i σ' H', P0 i σ' H' ↔ ((∃ u v, σ' = [some (V.str x), some (V.str wd), some (V.ref q), some (V.ref kp), some (V.ref pp), u, v, none]) ∧ Ex H2 H' ∧ H' pp = some (.lst ((convL ks items).take i))) := ⟨_, fun _ _ _ => Iff.rfl⟩
            refine forP (goes_zipM (xs := ks.map V.str) (ys := items.map V.str) (small (by rw [List.length_map]; omega))) Pv ((hPv _ _ _).mpr ⟨⟨_, _, rfl⟩, e3, upd_same⟩) (fun i σ' H' p => ⟨exT ((hPv _ _ _).mp p).2.1 hkp, SqL.of (((hPv _ _ _).mp p).2.1 q _ hq2), hlen⟩) ?_ ?_
            · intro i σ' H' H3 hi hp5 e5
              obtain ⟨⟨u, v, rfl⟩, e4, hpp4⟩ := (hPv _ _ _).mp hp5
              rw [List.length_map] at hi
              have hi2 : i < items.length := by omega
              have hki : (ks.map V.str)[i]? = some (V.str ks[i]) := by simp [hi]
              have hii : (items.map V.str)[i]? = some (V.str items[i]) := by simp [hi2]
              rw [hki, hii]
              have hpp5 := e5 pp _ hpp4
              have hci : (convL ks items)[i]? = some (convV ks[i] items[i]) := by
                unfold convL
                rw [List.getElem?_map, List.getElem?_eq_getElem (by rw [List.length_zip]; omega), List.getElem_zip]
                rfl
              have htk : (convL ks items).take (i + 1) = (convL ks items).take i ++ [convV ks[i] items[i]] := by
                rw [List.take_add_one, hci]
                rfl
              try simp only [tBM, tTup, is_ss, is_si, is_ii, is_ib, is_is, is_bs, is_ns, is_ni, is_nt, Bool.not_false, Bool.not_true, tSeq, tIfS, tRet, tRetN, tNext, tNever, tAsg, gName, tVar, tC, tOp, tUn, tCons, tNil, tCB, tCall, tTest, tB, tAnd, tOr, tNot, tAndV, tOrV, tNotV, tIf, tChain, rI0, rI, rU, rEq, rNe, List.map_cons, List.map_nil, List.length_cons, List.length_nil, List.replicate, List.cons_append, List.nil_append, List.append_nil, List.getElem?_cons_zero, List.getElem?_cons_succ, List.set_cons_zero, List.set_cons_succ, Option.some.injEq, exists_eq_left', exists_eq_left, exists_eq_right, V.str.injEq, V.int.injEq, V.bl.injEq, V.ref.injEq, V.ty.injEq, List.cons.injEq, and_true, true_and, exists_and_left, Nat.zero_add, Nat.add_sub_cancel, Nat.sub_self, Nat.succ_sub_succ_eq_sub, Nat.reduceSub, Nat.reduceAdd, Nat.sub_zero, tYes, tSl, tPart, tNoPart, if_true, Bool.false_eq_true, if_false, reduceCtorEq, false_and, exists_false, or_false, false_or, scal, tLc_eq, tFor_eq, iStr, iList, iTup, RZ.iZipA, decide_false, decide_true, tM1, tM0, tDrop]
              refine ⟨tyL (SqL.of hpp5), Nat.le_of_ble_eq_true rfl, fun tp htp => ?_⟩
              have e6 : Ex H3 (upd H3 tp (.tup [V.str (Str.ofString "integer"), V.str (Str.ofString "amount")])) := Ex.new htp
              refine inQ (.inr (SqT.of upd_same)) rfl rfl ⟨_, rfl, ?_⟩
              have hin : inV (V.str ks[i]) [V.str (Str.ofString "integer"), V.str (Str.ofString "amount")] = decide (ks[i] ∈ [Str.ofString "integer", Str.ofString "amount"]) := inV_strs _ [Str.ofString "integer", Str.ofString "amount"]
              have fin : ∀ H4, Ex H3 H4 → rAppend (V.ref pp) [convV ks[i] items[i]] H4 fun x_1 H1 => Pv (i + 1) [some (V.str x), some (V.str wd), some (V.ref q), some (V.ref kp), some (V.ref pp), some (V.str ks[i]), some (V.str items[i]), none] H1 := by
                intro H4 e7
                refine appQ (e7 pp _ hpp5) (small (by rw [List.length_take]; omega)) ((hPv _ _ _).mpr ⟨⟨_, _, rfl⟩, Ex.mut ((e4.trans e5).trans e7) hpp, ?_⟩)
                rw [upd_same, htk]
              rw [hin]
              by_cases hc : ks[i] = Str.ofString "integer" ∨ ks[i] = Str.ofString "amount"
              · rw [if_pos (by simpa using hc)]
                refine ⟨items[i], rfl, hwl _ (List.getElem_mem hi2), fun H4 e7 => ?_⟩
                have q1 := fin H4 (e6.trans e7)
                unfold convV at q1
                rw [if_pos hc] at q1
                exact q1
              · rw [if_neg (by simpa using hc)]
                have q1 := fin _ e6
                unfold convV at q1
                rw [if_neg hc] at q1
                exact q1
            · intro σ' H' hp5
              obtain ⟨h1, h2, h3⟩ := (hPv _ _ _).mp hp5
              refine ⟨h1, h2, ?_⟩
              rw [List.take_of_length_le (by rw [hcl, List.length_map]; exact Nat.le_refl _)] at h3
              exact h3
          · rintro σ' H3 ⟨⟨u, v, rfl⟩, e4, hpp4⟩
            try simp only [is_ss, is_si, is_ii, is_ib, is_is, is_bs, is_ns, is_ni, is_nt, Bool.not_false, Bool.not_true, tSeq, tIfS, tRet, tRetN, tNext, tNever, tAsg, gName, tVar, tC, tOp, tUn, tCons, tNil, tCB, tCall, tTest, tB, tAnd, tOr, tNot, tAndV, tOrV, tNotV, tIf, tChain, rI0, rI, rU, rEq, rNe, List.map_cons, List.map_nil, List.length_cons, List.length_nil, List.replicate, List.cons_append, List.nil_append, List.append_nil, List.getElem?_cons_zero, List.getElem?_cons_succ, List.set_cons_zero, List.set_cons_succ, Option.some.injEq, exists_eq_left', exists_eq_left, exists_eq_right, V.str.injEq, V.int.injEq, V.bl.injEq, V.ref.injEq, V.ty.injEq, List.cons.injEq, and_true, true_and, exists_and_left, Nat.zero_add, Nat.add_sub_cancel, Nat.sub_self, Nat.succ_sub_succ_eq_sub, Nat.reduceSub, Nat.reduceAdd, Nat.sub_zero, tYes, tSl, tPart, tNoPart, if_true, Bool.false_eq_true, if_false, reduceCtorEq, false_and, exists_false, or_false, false_or, scal, tLc_eq, tFor_eq, iStr, iList, iTup, RZ.iZipA, decide_false, decide_true, tM1, tM0, tDrop]
            refine ⟨fun σ' H' => ∃ sp, σ' = [some (V.str x), some (V.str wd), some (V.ref q), some (V.ref kp), some (V.ref pp), u, v, some (V.ref sp)] ∧ Ex H2 H' ∧ H' sp = some (.tup (V.str wd :: convL ks items)), ?_, ?_⟩
            · try simp only [tLst, is_ss, is_si, is_ii, is_ib, is_is, is_bs, is_ns, is_ni, is_nt, Bool.not_false, Bool.not_true, tSeq, tIfS, tRet, tRetN, tNext, tNever, tAsg, gName, tVar, tC, tOp, tUn, tCons, tNil, tCB, tCall, tTest, tB, tAnd, tOr, tNot, tAndV, tOrV, tNotV, tIf, tChain, rI0, rI, rU, rEq, rNe, List.map_cons, List.map_nil, List.length_cons, List.length_nil, List.replicate, List.cons_append, List.nil_append, List.append_nil, List.getElem?_cons_zero, List.getElem?_cons_succ, List.set_cons_zero, List.set_cons_succ, Option.some.injEq, exists_eq_left', exists_eq_left, exists_eq_right, V.str.injEq, V.int.injEq, V.bl.injEq, V.ref.injEq, V.ty.injEq, List.cons.injEq, and_true, true_and, exists_and_left, Nat.zero_add, Nat.add_sub_cancel, Nat.sub_self, Nat.succ_sub_succ_eq_sub, Nat.reduceSub, Nat.reduceAdd, Nat.sub_zero, tYes, tSl, tPart, tNoPart, if_true, Bool.false_eq_true, if_false, reduceCtorEq, false_and, exists_false, or_false, false_or, scal, tLc_eq, tFor_eq, iStr, iList, iTup, RZ.iZipA, decide_false, decide_true, tM1, tM0, tDrop]
              refine ⟨Nat.le_of_ble_eq_true rfl, fun p1 h1 => ?_⟩
              have e5 : Ex H3 (upd H3 p1 (.lst [V.str wd])) := Ex.new h1
              refine catQ upd_same (e5 pp _ hpp4) (small' (by rw [hcl]; simp; omega)) fun p2 h2 => ⟨p2, rfl, _, .inl ⟨SqL.of upd_same, fun p3 h3 => ⟨?_, upd_same⟩⟩⟩
              · exact ((e4.trans e5).trans (Ex.new h2)).trans (Ex.new h3)
            · rintro σ' H4 ⟨sp, rfl, e5, hsp⟩
              try simp only [is_ss, is_si, is_ii, is_ib, is_is, is_bs, is_ns, is_ni, is_nt, Bool.not_false, Bool.not_true, tSeq, tIfS, tRet, tRetN, tNext, tNever, tAsg, gName, tVar, tC, tOp, tUn, tCons, tNil, tCB, tCall, tTest, tB, tAnd, tOr, tNot, tAndV, tOrV, tNotV, tIf, tChain, rI0, rI, rU, rEq, rNe, List.map_cons, List.map_nil, List.length_cons, List.length_nil, List.replicate, List.cons_append, List.nil_append, List.append_nil, List.getElem?_cons_zero, List.getElem?_cons_succ, List.set_cons_zero, List.set_cons_succ, Option.some.injEq, exists_eq_left', exists_eq_left, exists_eq_right, V.str.injEq, V.int.injEq, V.bl.injEq, V.ref.injEq, V.ty.injEq, List.cons.injEq, and_true, true_and, exists_and_left, Nat.zero_add, Nat.add_sub_cancel, Nat.sub_self, Nat.succ_sub_succ_eq_sub, Nat.reduceSub, Nat.reduceAdd, Nat.sub_zero, tYes, tSl, tPart, tNoPart, if_true, Bool.false_eq_true, if_false, reduceCtorEq, false_and, exists_false, or_false, false_or, scal, tLc_eq, tFor_eq, iStr, iList, iTup, RZ.iZipA, decide_false, decide_true, tM1, tM0, tDrop]
              have hst : StOk wd ks (convL ks items) := by
                refine ⟨hk, hcl, fun k v hkv => ?_⟩
                have hz : ks.zip (convL ks items) = (ks.zip items).map fun q => (q.1, convV q.1 q.2) := by
                  unfold convL
                  apply List.ext_getElem
                  · simp
                  · intro i h1 h2
                    simp
                rw [hz] at hkv
                obtain ⟨⟨k', it⟩, hm, he⟩ := List.mem_map.mp hkv
                cases he
                exact conv_ok k' it (hwl it (List.of_mem_zip hm).2)
              refine .inr ⟨sp, wd, ks, convL ks items, rfl, hsp, hst, fun H5 e6 => ?_⟩
              cases hb : stepB ks (convL ks items) with
              | true =>
                try simp only [is_ss, is_si, is_ii, is_ib, is_is, is_bs, is_ns, is_ni, is_nt, Bool.not_false, Bool.not_true, tSeq, tIfS, tRet, tRetN, tNext, tNever, tAsg, gName, tVar, tC, tOp, tUn, tCons, tNil, tCB, tCall, tTest, tB, tAnd, tOr, tNot, tAndV, tOrV, tNotV, tIf, tChain, rI0, rI, rU, rEq, rNe, List.map_cons, List.map_nil, List.length_cons, List.length_nil, List.replicate, List.cons_append, List.nil_append, List.append_nil, List.getElem?_cons_zero, List.getElem?_cons_succ, List.set_cons_zero, List.set_cons_succ, Option.some.injEq, exists_eq_left', exists_eq_left, exists_eq_right, V.str.injEq, V.int.injEq, V.bl.injEq, V.ref.injEq, V.ty.injEq, List.cons.injEq, and_true, true_and, exists_and_left, Nat.zero_add, Nat.add_sub_cancel, Nat.sub_self, Nat.succ_sub_succ_eq_sub, Nat.reduceSub, Nat.reduceAdd, Nat.sub_zero, tYes, tSl, tPart, tNoPart, if_true, Bool.false_eq_true, if_false, reduceCtorEq, false_and, exists_false, or_false, false_or, scal, tLc_eq, tFor_eq, iStr, iList, iTup, RZ.iZipA, decide_false, decide_true, tM1, tM0, tDrop]
                exact hQ _ ((readW_of hk).trans (if_pos ⟨hl, hb⟩)) sp H5 ((e2.trans e5).trans e6) (e6 sp _ hsp)
              | false =>
                try simp only [is_ss, is_si, is_ii, is_ib, is_is, is_bs, is_ns, is_ni, is_nt, Bool.not_false, Bool.not_true, tSeq, tIfS, tRet, tRetN, tNext, tNever, tAsg, gName, tVar, tC, tOp, tUn, tCons, tNil, tCB, tCall, tTest, tB, tAnd, tOr, tNot, tAndV, tOrV, tNotV, tIf, tChain, rI0, rI, rU, rEq, rNe, List.map_cons, List.map_nil, List.length_cons, List.length_nil, List.replicate, List.cons_append, List.nil_append, List.append_nil, List.getElem?_cons_zero, List.getElem?_cons_succ, List.set_cons_zero, List.set_cons_succ, Option.some.injEq, exists_eq_left', exists_eq_left, exists_eq_right, V.str.injEq, V.int.injEq, V.bl.injEq, V.ref.injEq, V.ty.injEq, List.cons.injEq, and_true, true_and, exists_and_left, Nat.zero_add, Nat.add_sub_cancel, Nat.sub_self, Nat.succ_sub_succ_eq_sub, Nat.reduceSub, Nat.reduceAdd, Nat.sub_zero, tYes, tSl, tPart, tNoPart, if_true, Bool.false_eq_true, if_false, reduceCtorEq, false_and, exists_false, or_false, false_or, scal, tLc_eq, tFor_eq, iStr, iList, iTup, RZ.iZipA, decide_false, decide_true, tM1, tM0, tDrop]
                exact hR H5 ((e2.trans e5).trans e6) ((readW_of hk).trans (if_neg (by rw [hb]; simp)))
        · rw [if_pos (by simp only [List.length_map, Bool.not_eq_true', decide_eq_false_iff_not]; omega)]
          exact hR H2 e2 ((readW_of hk).trans (if_neg (fun z => hl z.1)))

end K17

-- text K17Split
set_option maxHeartbeats 4000000
/-! ## texts cut at one sign -/
namespace K17
open PySem L2
theorem starts_tl {x y : Str} (hy : tl y ≠ []) : Txt.startswith x y = TL.pre (tl y) (tl x) := by
  have h := TL.at_iff (x := x) (y := y) hy 0
  rw [List.drop_zero] at h
  unfold Txt.startswith
  rw [Bool.eq_iff_iff, Bool.and_eq_true, decide_eq_true_eq, ← h]
  exact Iff.rfl
/-- the parts between the signs s -/
def cut (s : Nat) : List Nat → List (List Nat)
  | [] => [[]]
  | c :: r => if c = s then [] :: cut s r else (c :: (cut s r).headD []) :: (cut s r).tail
theorem cut_hit (s : Nat) (r : List Nat) : cut s (s :: r) = [] :: cut s r := if_pos rfl
theorem cut_miss {s c : Nat} (r : List Nat) (h : c ≠ s) : cut s (c :: r) = (c :: (cut s r).headD []) :: (cut s r).tail := if_neg h
theorem cut_ne (s : Nat) (l : List Nat) : cut s l ≠ [] := by
  cases l with
  | nil => simp [cut]
  | cons c r =>
    unfold cut
    split <;> simp
theorem head_tail {α : Type} {l : List α} (d : α) (h : l ≠ []) : l.headD d :: l.tail = l := by
  cases l with
  | nil => exact absurd rfl h
  | cons _ _ => rfl
theorem spl_cut (s : Nat) : ∀ (l acc : List Nat), TL.spl [s] 0 acc l = (acc ++ (cut s l).headD []) :: (cut s l).tail := by
  intro l
  induction l with
  | nil => intro acc; rw [TL.spl_nil]; simp [cut]
  | cons c r ih =>
    intro acc
    by_cases h : c = s
    · subst h
      have hp : TL.pre [c] (c :: r) = true := by simp [TL.pre]
      rw [TL.spl_hit hp, TL.spl_pass]
      show acc :: TL.spl [c] 0 [] r = _
      rw [ih, cut_hit, List.nil_append, List.headD_cons, List.append_nil, List.tail_cons, head_tail [] (cut_ne c r)]
    · have hp : TL.pre [s] (c :: r) = false := by
        simp only [TL.pre, List.length_cons, List.length_nil, Nat.zero_add, List.take_succ_cons, List.take_zero]
        rw [beq_eq_false_iff_ne]
        intro z
        exact h (List.cons.inj z).1
      rw [TL.spl_miss hp, ih, cut_miss r h]
      simp
theorem split_cut (x y : Str) {s : Nat} (hy : tl y = [s]) (hs : s < 256) : (Txt.split x y).map tl = cut s (tl x) := by
  have hk : y.cps.all (· < 256) = true := by
    rw [← Array.all_toList]
    rw [show y.cps.toList = [s] from hy]
    simp [hs]
  have h := TL.split_spl x y (by rw [show TL.tl y = [s] from hy]; simp) (TL.kind_ok hk)
  have h2 : (Txt.split x y).map tl = TL.spl (TL.tl y) 0 [] (TL.tl x) := h
  rw [h2, show TL.tl y = [s] from hy, spl_cut]
  rw [List.nil_append]
  exact head_tail [] (cut_ne s _)
theorem cut_free {s : Nat} : ∀ {l p : List Nat}, p ∈ cut s l → s ∉ p := by
  intro l
  induction l with
  | nil =>
    intro p hp
    simp only [cut, List.mem_singleton] at hp
    subst hp
    simp
  | cons c r ih =>
    intro p hp
    unfold cut at hp
    split at hp
    · rcases List.mem_cons.mp hp with e | e
      · subst e; simp
      · exact ih e
    · rename_i hc
      rcases List.mem_cons.mp hp with e | e
      · subst e
        have h1 : (cut s r).headD [] ∈ cut s r := by
          have := head_tail [] (cut_ne s r)
          rw [← this]
          exact List.mem_cons_self
        have h2 := ih h1
        intro z
        rcases List.mem_cons.mp z with z | z
        · exact hc z.symm
        · exact h2 z
      · exact ih (List.mem_of_mem_tail e)
/-- glued again -/
def glue (s : Nat) : List (List Nat) → List Nat
  | [] => []
  | [p] => p
  | p :: q :: r => p ++ s :: glue s (q :: r)
theorem glue_joinL (s : Nat) : ∀ ps, TL.joinL [s] ps = glue s ps
  | [] => rfl
  | [p] => rfl
  | p :: q :: r => by
    show p ++ ([s] ++ TL.joinL [s] (q :: r)) = p ++ s :: glue s (q :: r)
    rw [glue_joinL s (q :: r)]
    rfl
theorem glue_cut (s : Nat) : ∀ l, glue s (cut s l) = l := by
  intro l
  induction l with
  | nil => rfl
  | cons c r ih =>
    have ht := head_tail [] (cut_ne s r)
    unfold cut
    split
    · rename_i hc
      subst hc
      rw [← ht] at ih ⊢
      show [] ++ c :: glue c _ = _
      rw [ih]
      rfl
    · rw [← ht] at ih
      cases q : (cut s r).tail with
      | nil =>
        rw [q] at ih
        show c :: (cut s r).headD [] = c :: r
        rw [show (cut s r).headD [] = r from ih]
      | cons p ps =>
        rw [q] at ih
        show (c :: (cut s r).headD []) ++ s :: glue s (p :: ps) = c :: r
        rw [List.cons_append, show (cut s r).headD [] ++ s :: glue s (p :: ps) = r from ih]
theorem cut_append (s : Nat) : ∀ {p : List Nat} {r : List Nat}, s ∉ p → cut s (p ++ s :: r) = p :: cut s r := by
  intro p
  induction p with
  | nil =>
    intro r _
    show cut s (s :: r) = _
    exact cut_hit s r
  | cons c p ih =>
    intro r h
    have hc : c ≠ s := fun z => h (by rw [z]; exact List.mem_cons_self)
    have hp : s ∉ p := fun z => h (List.mem_cons_of_mem _ z)
    show cut s (c :: (p ++ s :: r)) = _
    rw [cut_miss _ hc, ih hp]
    rfl
theorem cut_whole (s : Nat) : ∀ {p : List Nat}, s ∉ p → cut s p = [p] := by
  intro p
  induction p with
  | nil => intro _; rfl
  | cons c p ih =>
    intro h
    have hc : c ≠ s := fun z => h (by rw [z]; exact List.mem_cons_self)
    have hp : s ∉ p := fun z => h (List.mem_cons_of_mem _ z)
    rw [cut_miss _ hc, ih hp]
    rfl
theorem cut_glue (s : Nat) : ∀ {ps : List (List Nat)}, ps ≠ [] → (∀ p ∈ ps, s ∉ p) → cut s (glue s ps) = ps
  | [], h, _ => absurd rfl h
  | [p], _, h => cut_whole s (h p List.mem_cons_self)
  | p :: q :: r, _, h => by
    show cut s (p ++ s :: glue s (q :: r)) = _
    rw [cut_append s (h p List.mem_cons_self), cut_glue s (by simp) fun x hx => h x (List.mem_cons_of_mem _ hx)]
theorem cut_infix (s : Nat) : ∀ {l p : List Nat}, p ∈ cut s l → p <:+: l := by
  intro l
  induction l with
  | nil =>
    intro p hp
    simp only [cut, List.mem_singleton] at hp
    subst hp
    exact List.infix_refl _
  | cons c r ih =>
    intro p hp
    unfold cut at hp
    split at hp
    · rcases List.mem_cons.mp hp with e | e
      · subst e
        exact List.nil_infix
      · exact (ih e).trans (List.suffix_cons c r).isInfix
    · rcases List.mem_cons.mp hp with e | e
      · subst e
        -- the first part is a beginning of r
        have key : ∀ l : List Nat, (cut s l).headD [] <+: l := by
          intro l
          induction l with
          | nil => exact List.prefix_refl _
          | cons d t iht =>
            unfold cut
            split
            · exact List.nil_prefix
            · obtain ⟨u, hu⟩ := iht
              exact ⟨u, by show d :: ((cut s t).headD [] ++ u) = d :: t; rw [hu]⟩
        obtain ⟨u, hu⟩ := key r
        exact ⟨[], u, by show c :: ((cut s r).headD [] ++ u) = c :: r; rw [hu]⟩
      · exact (ih (List.mem_of_mem_tail e)).trans (List.suffix_cons c r).isInfix
/-- a stretch without the sign lies within one part -/
theorem infix_cut (s : Nat) : ∀ {l u : List Nat}, u <:+: l → s ∉ u → ∃ p ∈ cut s l, u.length ≤ p.length := by
  have key : ∀ (l u : List Nat), u <+: l → s ∉ u → u.length ≤ ((cut s l).headD []).length := by
    intro l
    induction l with
    | nil =>
      intro u hu _
      rw [List.prefix_nil.mp hu]
      exact Nat.zero_le _
    | cons c r ih =>
      intro u hu hs
      cases u with
      | nil => exact Nat.zero_le _
      | cons d u =>
        obtain ⟨t, ht⟩ := hu
        injection ht with h1 h2
        have hc : c ≠ s := fun z => hs (by rw [h1, z]; exact List.mem_cons_self)
        have := ih u ⟨t, h2⟩ (fun z => hs (List.mem_cons_of_mem _ z))
        unfold cut
        rw [if_neg hc]
        show u.length + 1 ≤ ((cut s r).headD []).length + 1
        omega
  intro l
  induction l with
  | nil =>
    intro u hu _
    exact ⟨[], by simp [cut], by rw [List.infix_nil.mp hu]; exact Nat.le_refl _⟩
  | cons c r ih =>
    intro u hu hs
    rcases List.infix_cons_iff.mp hu with h | h
    · refine ⟨(cut s (c :: r)).headD [], ?_, key _ _ h hs⟩
      rw [← head_tail [] (cut_ne s (c :: r))]
      exact List.mem_cons_self
    · obtain ⟨p, hp, hl⟩ := ih h hs
      unfold cut
      split
      · exact ⟨p, List.mem_cons_of_mem _ hp, hl⟩
      · have ht := head_tail [] (cut_ne s r)
        rw [← ht] at hp
        rcases List.mem_cons.mp hp with e | e
        · refine ⟨_, List.mem_cons_self, ?_⟩
          rw [e] at hl
          show u.length ≤ _ + 1
          omega
        · exact ⟨p, List.mem_cons_of_mem _ e, hl⟩
/-- no long stretch without a blank or a line's end -/
def SH (l : List Nat) : Prop := ∀ u, u <:+: l → 32 ∉ u → 10 ∉ u → u.length ≤ 30
theorem SH.sub {l m : List Nat} (h : SH l) (i : m <:+: l) : SH m := fun u hu h1 h2 => h u (hu.trans i) h1 h2
theorem SH.words {l p : List Nat} (h : SH l) (h10 : 10 ∉ l) (hp : p ∈ cut 32 l) : p.length ≤ 30 := by
  have hi := cut_infix 32 hp
  exact h p hi (cut_free hp) fun z => h10 (hi.subset z)
end K17

-- text K17Kw
set_option maxHeartbeats 8000000
namespace K17
open PySem PySem.Spec PyProof.Rows L2 Evl
variable {P : Program} {w : World} {K : PySem.W.Frag} {mg : Str → Option Value} {base : Heap} {d : Ad}
/-! ## defs with keyword-only parameters; calls in a try -/
def OkN (P : Program) (w : World) (K : PySem.W.Frag) (mg : Str → Option Value) (base : Heap) (k : Nat) (x : Str) (ps : List Str) (n : Nat) (ks : List Str) (gV : List V → List V → List V) (sp : Sp) : Prop :=
  ∃ (f : Addr) (fd : FuncData) (g : List Value → List Value → List Value), mg x = some (.ref f) ∧ PySem.W.keepIn K (.ref f) = true ∧ KBn K fd ps n ks g gV ∧ FnOk P w K mg base CX0 k f fd ps sp
theorem pe_cN {X : Cx} {x : Str} {p pos : Pos} {k n : Nat} {ps ks : List Str} {gV : List V → List V → List V} {sp : Sp} {E : XK} {e : Expr} {es : List Expr} {kws : List Keyword} {t tk : TA} (F : OkN X.prog X.w X.K X.mg X.base k x ps n ks gV sp) (hr : Room k X.A) (hx : Passes CX0 X E) (ha : PA X (e :: es) t) (hkw : PK X kws tk)
    (hg : Gl X x := by rfl) (hall : (backToKw pos (keywordEach kws X.env)).all (·.1.isSome) = true := by rfl) (hks : (backToKw pos (keywordEach kws X.env)).filterMap (·.1) = ks := by rfl)
    (hdb : (x == ("__debug__" : Str)) = false := by decide) (he : starEach (e :: es) X.env = (false, eval e X.env) :: starEach es X.env := by rfl)
    (hpl : ((backTo pos (starEach (e :: es) X.env)).any (·.1) || (backToKw pos (keywordEach kws X.env)).any (·.1.isNone)) = false := by rfl) :
    PE X (.Call (.Name x p) (e :: es) kws pos) (tCallN n ks.length sp gV E t tk) := by
  obtain ⟨f, fd, g, hm, hk, hb, F⟩ := F
  exact pe_callN F hr hg hm hk hb hx ha hkw hall hks hdb he hpl
theorem pe_cS {X : Cx} {W : WX} {x : Str} {p pos : Pos} {k : Nat} {ps : List Str} {sp : Sp} {e : Expr} {es : List Expr} {t : TA} (F : Ok X.prog X.w X.K X.mg X.base (L2.CX X.prog X.w) k x ps sp) (hr : Room k X.A) (tk : Takes X W) (ha : PA X (e :: es) t)
    (hg : Gl X x := by rfl) (hdb : (x == ("__debug__" : Str)) = false := by decide) (he : starEach (e :: es) X.env = (false, eval e X.env) :: starEach es X.env := by rfl) (hpl : (backTo pos (starEach es X.env)).any (·.1) = false := by rfl) :
    PE X (.Call (.Name x p) (e :: es) [] pos) (tCallS sp (WE W) t) := by
  obtain ⟨f, fd, hm, hk, hb, F⟩ := F
  exact pe_callS F hr hg hm hk hb (fun σ => passAt tk σ) ha hdb he hpl
theorem kb_steps (F : Fd K mg "step_lines_problem" s_step_lines_problem [("is_main", .bl false)]) {sp : Sp} {k : Nat} (ok : ∀ (f : Addr) (fd : FuncData), FunD K "step_lines_problem" "step_lines_problem" (defArgs s_step_lines_problem) (defBody s_step_lines_problem) (defScope s_step_lines_problem) [] [("is_main", .bl false)] f fd → FnOk P w K mg base CX0 k f fd ["lines", "known", "is_main"] sp) :
    OkN P w K mg base k "step_lines_problem" ["lines", "known", "is_main"] 1 ["known"] (fun vs zs => vs ++ (zs ++ [.bl false])) sp := by
  obtain ⟨f, fd, hm, F⟩ := F
  obtain ⟨mv, hb⟩ := F.kbinds0 (ps := ["lines", "known", "is_main"]) 1 ["known"] [("is_main", .bl false)] (fun {α} (a b c : List α) => a ++ (c ++ b)) (by simp) (fun q hq => hq) (fun r1 r2 r3 => r1.append (r3.append r2))
    (fun D doc pm an cdv ct us mv ws h1 h2 h3 => match us, mv, ws, h1, h2, h3 with
      | [_], [_], [_], _, _, _ => ⟨_, _, _, _, _, _, rfl, rfl, rfl⟩)
  exact ⟨f, fd, _, hm, F.kp, hb, ok f fd F⟩
theorem kb_first (F : Fd K mg "first_problem" s_first_problem [("is_main", .bl false), ("known", .non)]) {sp : Sp} {k : Nat} (ok : ∀ (f : Addr) (fd : FuncData), FunD K "first_problem" "first_problem" (defArgs s_first_problem) (defBody s_first_problem) (defScope s_first_problem) [] [("is_main", .bl false), ("known", .non)] f fd → FnOk P w K mg base CX0 k f fd ["value", "is_main", "known"] sp) :
    OkN P w K mg base k "first_problem" ["value", "is_main", "known"] 1 ["known"] (fun vs zs => vs ++ ([.bl false] ++ zs)) sp := by
  obtain ⟨f, fd, hm, F⟩ := F
  obtain ⟨mv, hb⟩ := F.kbinds0 (ps := ["value", "is_main", "known"]) 1 ["known"] [("is_main", .bl false)] (fun {α} (a b c : List α) => a ++ (b ++ c)) (by simp) (fun q hq => by rw [List.mem_singleton.mp hq]; exact List.mem_cons_self) (fun r1 r2 r3 => r1.append (r2.append r3))
    (fun D doc pm an cdv ct us mv ws h1 h2 h3 => match us, mv, ws, h1, h2, h3 with
      | [_], [_], [_], _, _, _ => ⟨_, _, _, _, _, _, rfl, rfl, rfl⟩)
  exact ⟨f, fd, _, hm, F.kp, hb, ok f fd F⟩

end K17

-- text K17P5
set_option maxHeartbeats 8000000
namespace K17
open PySem PySem.Spec PyProof.Rows L2 Evl
variable {P : Program} {w : World} {K : PySem.W.Frag} {mg : Str → Option Value} {base : Heap} {d : Ad}
/-! ## the readers of lines -/
def indB (x : Str) : Bool := TL.pre [32, 32] (tl x)
abbrev restS (x : Str) : Str := cutS x (some 2) none
def solM (x : Str) : Option (List V) := if indB x = true then readW (wordsS (restS x)) else none
/-- a line as the readers want it -/
structure LineOk (x : Str) : Prop where
  sh : SH (tl x)
  no : 10 ∉ tl x
  len : x.length ≤ 1000000
theorem tl_blank : tl (Str.ofString " ") = [32] := by decide +kernel
theorem tl_ind : tl (Str.ofString "  ") = [32, 32] := by decide +kernel
theorem len_ind : (Str.ofString "  ").length = 2 := by decide +kernel
theorem tl_head : tl (Str.ofString "module ") = [109, 111, 100, 117, 108, 101, 32] := by decide +kernel
theorem len_head : (Str.ofString "module ").length = 7 := by decide +kernel
theorem words_tl (x : Str) : (wordsS x).map tl = cut 32 (tl x) := split_cut x _ tl_blank (by decide)
theorem words_short {x : Str} (h : SH (tl x)) (h10 : 10 ∉ tl x) : ∀ y ∈ wordsS x, y.length ≤ 30 := by
  intro y hy
  have h2 : tl y ∈ cut 32 (tl x) := by
    rw [← words_tl]
    exact List.mem_map.mpr ⟨y, hy, rfl⟩
  have := h.words h10 h2
  rw [TL.len_tl]
  exact this
theorem LineOk.rest {x : Str} (h : LineOk x) : ∀ y ∈ wordsS (restS x), y.length ≤ 30 := by
  have e : tl (restS x) = (tl x).drop 2 := tl_cut_from x 2
  refine words_short ?_ ?_
  · rw [e]; exact h.sh.sub (List.drop_suffix 2 _).isInfix
  · rw [e]; exact fun z => h.no (List.mem_of_mem_drop z)
theorem cut_len (x : Str) (a b : Option Int) : (cutS x a b).length ≤ x.length := cutS_length x a b
def spSol : Sp := fun vs H Q _ => ∃ x : Str, vs = [.str x] ∧ LineOk x ∧ (∀ items, solM x = some items → ∀ p H', Ex H H' → H' p = some (.tup items) → Q (.ref p) H') ∧ (solM x = none → ∀ H', Ex H H' → Q .non H')
theorem o_step_of_line (T : Tx w K mg d) (E0' : Tex K mg d) (hex : PySem.W.exmOne K (.ref d.it) (.ref d.it) = some true) (F : Fd K mg "step_of_line" s_step_of_line []) (o_parse_step : Ok P w K mg base (L2.CX P w) 6 "parse_step" ["text"] (spPStep d.it)) :
    Ok0 P w K mg base 8 "step_of_line" ["line"] spSol := by
  refine mkOk 7 F sc_step_of_line (fun _ _ _ _ _ _ us hl => match us, hl with | [_], _ => rfl) (fun vs H Q E h => by obtain ⟨x, rfl, _⟩ := h; rfl) fun f cdv A outer s H vs Q E hr h => ?_
  obtain ⟨x, rfl, hx, hQ, hN⟩ := h
  refine ⟨_, PSs.nox (pss_one (ps_try_only (c := .ref d.it) rfl rfl ⟨by rfl, by decide, .inl E0'.c_it⟩ takes0
    (fun W pn xe tk hp => pss_one (ps_ret (pe_ifExp (pt_val (pe_m1 PySem.F.slot_str_startswith PySem.F.type_str_startswith mt_startswith (pv 0) (pe_gs T.c_INDENT)))
      (pe_cS o_parse_step (hr.mono (by decide)) tk (pa_cons (pe_slice sl_str (pv 0) (po_some (pe_callB call_len_str (by rfl) T.b_len (by decide +kernel) (pa_cons (pe_gs T.c_INDENT) pa_nil))) po_none) pa_nil)) pe_non)))
    (fun a oe cls d pn hz hf => pss_one (ps_ret pe_non)))), ?_⟩
  try simp only [tCallS, WE, wOnly, rSlS, len_ind, n_step_of_line, L2.start, cxK, cxW, cxK', cxW', is_ss, is_si, is_ii, is_ib, is_is, is_bs, is_ns, is_ni, is_nt, Bool.not_false, Bool.not_true, tSeq, tIfS, tRet, tRetN, tNext, tNever, tAsg, gName, tVar, tC, tOp, tUn, tCons, tNil, tCB, tCall, tTest, tB, tAnd, tOr, tNot, tAndV, tOrV, tNotV, tIf, tChain, rI0, rI, rU, rEq, rNe, List.map_cons, List.map_nil, List.length_cons, List.length_nil, List.replicate, List.cons_append, List.nil_append, List.append_nil, List.getElem?_cons_zero, List.getElem?_cons_succ, List.set_cons_zero, List.set_cons_succ, Option.some.injEq, exists_eq_left', exists_eq_left, exists_eq_right, V.str.injEq, V.int.injEq, V.bl.injEq, V.ref.injEq, V.ty.injEq, List.cons.injEq, and_true, true_and, exists_and_left, Nat.zero_add, Nat.add_sub_cancel, Nat.sub_self, Nat.succ_sub_succ_eq_sub, Nat.reduceSub, Nat.reduceAdd, Nat.sub_zero, tYes, tSl, tPart, tNoPart, if_true, Bool.false_eq_true, if_false, reduceCtorEq, false_and, exists_false, or_false, false_or, scal, tLc_eq, tFor_eq, iStr, iList, iTup, RZ.iZipA, decide_false, decide_true, tM1, tM0, tDrop]
  refine ⟨⟨_, rfl⟩, ?_⟩
  have e1 : Txt.startswith x (Str.ofString "  ") = indB x := by rw [starts_tl (by rw [tl_ind]; decide), tl_ind]; rfl
  rw [e1]
  cases hi : indB x with
  | false =>
    have e2 : solM x = none := by unfold solM; rw [hi]; rfl
    exact hN e2 H (Ex.refl _)
  | true =>
    have e2 : solM x = readW (wordsS (restS x)) := by unfold solM; rw [hi]; rfl
    rw [e2] at hQ hN
    refine ⟨by decide, small' (by have := hx.len; omega), restS x, rfl, Nat.le_trans (cut_len x (some 2) none) (by have := hx.len; omega), hx.rest, hQ, fun hn dd H' e hdd => ⟨true, hex, fun _ a ha => hN hn H' e, fun z => nomatch z⟩⟩
/-! ### module_of_line -/
def modS (x : Str) : Option Str := if TL.pre [109, 111, 100, 117, 108, 101, 32] (tl x) = true ∧ nmB (cutS x (some 7) none) = true then some (cutS x (some 7) none) else none
def optV : Option Str → V
  | none => .non
  | some x => .str x
def spMol : Sp := fun vs H Q _ => ∃ x : Str, vs = [.str x] ∧ x.length ≤ 3000000 ∧ ∀ H', Ex H H' → Q (optV (modS x)) H'
theorem o_module_of_line (T : Tx w K mg d) (F : Fd K mg "module_of_line" s_module_of_line []) (o_is_name : Ok0 P w K mg base 3 "is_name" ["value"] spName) : Ok0 P w K mg base 4 "module_of_line" ["line"] spMol := by
  refine mkOk 3 F sc_module_of_line (fun _ _ _ _ _ _ us hl => match us, hl with | [_], _ => rfl) (fun vs H Q E h => by obtain ⟨x, rfl, _⟩ := h; rfl) fun f cdv A outer s H vs Q E hr h => ?_
  obtain ⟨x, rfl, hx, hQ⟩ := h
  refine ⟨_, PSs.nox (pss_cons (ps_set (i := 1) sc_module_of_line.nd rfl (.inl rfl) (pe_slice sl_str (pv 0) (po_some (pe_callB call_len_str (by rfl) T.b_len (by decide +kernel) (pa_cons (pe_gs T.c_HEAD) pa_nil))) po_none))
    (pss_one (ps_ret (pe_ifExp (PW.pt (pw_and (pt_val (pe_m1 PySem.F.slot_str_startswith PySem.F.type_str_startswith mt_startswith (pv 0) (pe_gs T.c_HEAD))) (pw_and1 (pt_val (pe_c o_is_name (hr.mono (by decide)) pass0 (pa_cons (pv 1) pa_nil)))))) (pv 1) pe_non)))), ?_⟩
  try simp only [rSlS, len_head, n_module_of_line, L2.start, cxK, cxW, cxK', cxW', is_ss, is_si, is_ii, is_ib, is_is, is_bs, is_ns, is_ni, is_nt, Bool.not_false, Bool.not_true, tSeq, tIfS, tRet, tRetN, tNext, tNever, tAsg, gName, tVar, tC, tOp, tUn, tCons, tNil, tCB, tCall, tTest, tB, tAnd, tOr, tNot, tAndV, tOrV, tNotV, tIf, tChain, rI0, rI, rU, rEq, rNe, List.map_cons, List.map_nil, List.length_cons, List.length_nil, List.replicate, List.cons_append, List.nil_append, List.append_nil, List.getElem?_cons_zero, List.getElem?_cons_succ, List.set_cons_zero, List.set_cons_succ, Option.some.injEq, exists_eq_left', exists_eq_left, exists_eq_right, V.str.injEq, V.int.injEq, V.bl.injEq, V.ref.injEq, V.ty.injEq, List.cons.injEq, and_true, true_and, exists_and_left, Nat.zero_add, Nat.add_sub_cancel, Nat.sub_self, Nat.succ_sub_succ_eq_sub, Nat.reduceSub, Nat.reduceAdd, Nat.sub_zero, tYes, tSl, tPart, tNoPart, if_true, Bool.false_eq_true, if_false, reduceCtorEq, false_and, exists_false, or_false, false_or, scal, tLc_eq, tFor_eq, iStr, iList, iTup, RZ.iZipA, decide_false, decide_true, tM1, tM0, tDrop]
  have e1 : Txt.startswith x (Str.ofString "module ") = TL.pre [109, 111, 100, 117, 108, 101, 32] (tl x) := by rw [starts_tl (by rw [tl_head]; decide), tl_head]
  have hc := cut_len x (some 7) none
  refine ⟨by decide, small' (by omega), ⟨_, rfl⟩, ?_⟩
  rw [e1]
  cases hp : TL.pre [109, 111, 100, 117, 108, 101, 32] (tl x) with
  | false =>
    have e : modS x = none := by unfold modS; rw [hp]; exact if_neg (by simp)
    rw [e] at hQ
    exact hQ H (Ex.refl _)
  | true =>
    refine ⟨cutS x (some 7) none, rfl, by omega, fun H1 e1 => ?_⟩
    cases hn : nmB (cutS x (some 7) none) with
    | false =>
      have e : modS x = none := by unfold modS; rw [hn]; exact if_neg (by simp)
      rw [e] at hQ
      exact ⟨false, rfl, hQ H1 e1⟩
    | true =>
      have e : modS x = some (cutS x (some 7) none) := by unfold modS; rw [hp, hn]; exact if_pos ⟨rfl, rfl⟩
      rw [e] at hQ
      exact ⟨true, rfl, hQ H1 e1⟩
/-! ### split_lines -/
abbrev linesS (t : Str) : List Str := Txt.split t (Str.ofString "\n")
def endS (t : Str) : Bool := decide ((linesS t).getLast? = some (Str.ofString ""))
def rowsS (t : Str) : List Str := if endS t = true then (linesS t).dropLast else linesS t
theorem tl_nl : tl (Str.ofString "\n") = [10] := by decide +kernel
theorem len_nl : (Str.ofString "\n").length = 1 := by decide +kernel
theorem lines_tl (x : Str) : (linesS x).map tl = cut 10 (tl x) := split_cut x _ tl_nl (by decide)
theorem lines_ne (x : Str) : linesS x ≠ [] := by
  intro e
  have h := lines_tl x
  rw [e] at h
  exact cut_ne 10 _ h.symm
theorem cut_count (s : Nat) : ∀ l : List Nat, (cut s l).length ≤ l.length + 1 := by
  intro l
  induction l with
  | nil => simp [cut]
  | cons c r ih =>
    unfold cut
    have := head_tail [] (cut_ne s r)
    have h2 := congrArg List.length this
    rw [List.length_cons] at h2
    split
    · rw [List.length_cons, List.length_cons]; omega
    · rw [List.length_cons, List.length_cons]; omega
theorem lines_len (x : Str) : (linesS x).length ≤ x.length + 1 := by
  have h := congrArg List.length (lines_tl x)
  rw [List.length_map] at h
  have := cut_count 10 (tl x)
  have e : x.length = (tl x).length := TL.len_tl x
  omega
def spSplit : Sp := fun vs H Q _ => ∃ x : Str, vs = [.str x] ∧ x.length ≤ 2000000 ∧ ∀ p q H', H p = none → Ex H H' → H' p = some (.lst ((rowsS x).map V.str)) → H' q = some (.tup [.ref p, .bl (endS x)]) → Q (.ref q) H'
theorem atLast {α : Type} {l : List α} {x : α} (h : l.getLast? = some x) : atI l (-1) = some x := by
  cases l with
  | nil => cases h
  | cons a r =>
    unfold atI ixN
    rw [if_neg (by omega), if_pos (by rw [List.length_cons]; omega)]
    show (a :: r)[((-1 : Int) + ((a :: r).length : Int)).toNat]? = some x
    rw [List.getLast?_eq_getElem?] at h
    rw [← h]
    congr 1
    rw [List.length_cons]
    omega
theorem cut_last {xs : List V} : cutV xs none (some (-1)) = xs.dropLast := by
  unfold cutV
  rw [HT.sIx_none]
  have e : HT.sIx xs.length xs.length (some (-1)) = xs.length - 1 := by
    show (if (-1 : Int) < 0 then ((-1 : Int) + (xs.length : Int)).toNat else min (-1 : Int).toNat xs.length) = _
    rw [if_pos (by decide)]
    omega
  rw [e, List.drop_zero, Nat.sub_zero, List.dropLast_eq_take]
theorem o_split_lines (T : Tx w K mg d) (F : Fd K mg "split_lines" s_split_lines []) : Ok0 P w K mg base 3 "split_lines" ["text"] spSplit := by
  refine mkOk 2 F sc_split_lines (fun _ _ _ _ _ _ us hl => match us, hl with | [_], _ => rfl) (fun vs H Q E h => by obtain ⟨x, rfl, _⟩ := h; rfl) fun f cdv A outer s H vs Q E hr h => ?_
  obtain ⟨x, rfl, hx, hQ⟩ := h
  refine ⟨_, PSs.nox (pss_cons (ps_set (i := 1) sc_split_lines.nd rfl (.inl rfl) (pe_split (pv 0) pe_str))
    (pss_cons (ps_set (i := 2) sc_split_lines.nd rfl (.inl rfl) (pe_cmpR op_eq (pe_ix ix_list (pv 1) (pe_un un_neg pe_int) (fun _ _ => rfl)) pe_str (nomark _)))
    (pss_one (ps_ret (pe_tup (pa_cons (pe_ifExp (pt_val (pv 2)) (pe_slice sl_list (pv 1) po_none (po_some (pe_un un_neg pe_int))) (pv 1)) (pa_cons (pv 2) pa_nil))))))), ?_⟩
  try simp only [rNewStrs, tTup, rSlL, n_split_lines, L2.start, cxK, cxW, cxK', cxW', is_ss, is_si, is_ii, is_ib, is_is, is_bs, is_ns, is_ni, is_nt, Bool.not_false, Bool.not_true, tSeq, tIfS, tRet, tRetN, tNext, tNever, tAsg, gName, tVar, tC, tOp, tUn, tCons, tNil, tCB, tCall, tTest, tB, tAnd, tOr, tNot, tAndV, tOrV, tNotV, tIf, tChain, rI0, rI, rU, rEq, rNe, List.map_cons, List.map_nil, List.length_cons, List.length_nil, List.replicate, List.cons_append, List.nil_append, List.append_nil, List.getElem?_cons_zero, List.getElem?_cons_succ, List.set_cons_zero, List.set_cons_succ, Option.some.injEq, exists_eq_left', exists_eq_left, exists_eq_right, V.str.injEq, V.int.injEq, V.bl.injEq, V.ref.injEq, V.ty.injEq, List.cons.injEq, and_true, true_and, exists_and_left, Nat.zero_add, Nat.add_sub_cancel, Nat.sub_self, Nat.succ_sub_succ_eq_sub, Nat.reduceSub, Nat.reduceAdd, Nat.sub_zero, tYes, tSl, tPart, tNoPart, if_true, Bool.false_eq_true, if_false, reduceCtorEq, false_and, exists_false, or_false, false_or, scal, tLc_eq, tFor_eq, iStr, iList, iTup, RZ.iZipA, decide_false, decide_true, tM1, tM0, tDrop]
  refine ⟨⟨_, rfl⟩, by rw [len_nl]; rfl, small' (by omega), fun p hp => ?_⟩
  have e1 : Ex H (upd H p (.lst ((linesS x).map V.str))) := Ex.new hp
  obtain ⟨z, hz⟩ : ∃ z, (linesS x).getLast? = some z := ⟨_, List.getLast?_eq_some_getLast (lines_ne x)⟩
  have hz2 : ((linesS x).map V.str).getLast? = some (.str z) := by rw [List.getLast?_map, hz]; rfl
  have ez : endS x = decide (z = Str.ofString "") := by
    unfold endS
    rw [hz]
    simp
  refine ixL (SqL.of upd_same) (atLast hz2) ?_
  try simp only [is_ss, is_si, is_ii, is_ib, is_is, is_bs, is_ns, is_ni, is_nt, Bool.not_false, Bool.not_true, tSeq, tIfS, tRet, tRetN, tNext, tNever, tAsg, gName, tVar, tC, tOp, tUn, tCons, tNil, tCB, tCall, tTest, tB, tAnd, tOr, tNot, tAndV, tOrV, tNotV, tIf, tChain, rI0, rI, rU, rEq, rNe, List.map_cons, List.map_nil, List.length_cons, List.length_nil, List.replicate, List.cons_append, List.nil_append, List.append_nil, List.getElem?_cons_zero, List.getElem?_cons_succ, List.set_cons_zero, List.set_cons_succ, Option.some.injEq, exists_eq_left', exists_eq_left, exists_eq_right, V.str.injEq, V.int.injEq, V.bl.injEq, V.ref.injEq, V.ty.injEq, List.cons.injEq, and_true, true_and, exists_and_left, Nat.zero_add, Nat.add_sub_cancel, Nat.sub_self, Nat.succ_sub_succ_eq_sub, Nat.reduceSub, Nat.reduceAdd, Nat.sub_zero, tYes, tSl, tPart, tNoPart, if_true, Bool.false_eq_true, if_false, reduceCtorEq, false_and, exists_false, or_false, false_or, scal, tLc_eq, tFor_eq, iStr, iList, iTup, RZ.iZipA, decide_false, decide_true, tM1, tM0, tDrop]
  have fin : ∀ (p2 : Addr) (H2 : Hp), H p2 = none → Ex H H2 → H2 p2 = some (.lst ((rowsS x).map V.str)) → 2 ≤ sizeLine ∧ ∀ q, H2 q = none → Q (.ref q) (upd H2 q (.tup [.ref p2, .bl (decide (z = Str.ofString ""))])) := by
    intro p2 H2 h1 h2 h3
    refine ⟨Nat.le_of_ble_eq_true rfl, fun q hq => hQ p2 q _ h1 (h2.trans (Ex.new hq)) ?_ ?_⟩
    · rw [upd_ne (ne_of_none h3 hq)]; exact h3
    · rw [upd_same, ez]
  cases hd : decide (z = Str.ofString "") with
  | true =>
    rw [hd] at fin ez
    refine ⟨(linesS x).map V.str, SqL.of upd_same, fun p2 hp2 => ?_⟩
    refine fin p2 _ (fresh_back e1 hp2) (e1.trans (Ex.new hp2)) ?_
    rw [upd_same, cut_last]
    unfold rowsS
    rw [if_pos ez, List.map_dropLast]
  | false =>
    rw [hd] at fin ez
    refine fin p _ hp e1 ?_
    rw [upd_same]
    unfold rowsS
    rw [if_neg (by rw [ez]; decide)]

end K17

-- text K17P6
set_option maxHeartbeats 8000000
namespace K17
open PySem PySem.Spec PyProof.Rows L2 Evl
variable {P : Program} {w : World} {K : PySem.W.Frag} {mg : Str → Option Value} {base : Heap} {d : Ad}
/-! ## blocks of lines: step_lines_after, step_lines_problem -/
def blockS (ys : List Str) (j : Nat) : List Str := (ys.drop j).takeWhile indB
def spAfter (K : PySem.W.Frag) : Sp := fun vs H Q _ => ∃ (a : Addr) (ys : List Str) (i : Nat), vs = [.ref a, .int i] ∧ SqL K H a (ys.map V.str) ∧ i < ys.length ∧ ys.length ≤ 3000000 ∧ ∀ p H', H p = none → Ex H H' → H' p = some (.lst ((blockS ys (i + 1)).map V.str)) → Q (.ref p) H'
theorem cut_mid {xs : List V} {i e : Nat} (h1 : i ≤ e) (h2 : e ≤ xs.length) : cutV xs (some (i : Int)) (some (e : Int)) = (xs.drop i).take (e - i) := by
  unfold cutV
  rw [HT.sIx_nat, HT.sIx_nat, Nat.min_eq_left h2, Nat.min_eq_left (Nat.le_trans h1 h2)]
theorem starts_ind (x : Str) : Txt.startswith x (Str.ofString "  ") = indB x := by rw [starts_tl (by rw [tl_ind]; decide), tl_ind]; rfl
theorem o_step_lines_after (T : Tx w K mg d) (F : Fd K mg "step_lines_after" s_step_lines_after []) : Ok0 P w K mg base 3 "step_lines_after" ["lines", "index"] (spAfter K) := by
  refine mkOk 2 F sc_step_lines_after (fun _ _ _ _ _ _ us hl => match us, hl with | [_, _], _ => rfl) (fun vs H Q E h => by obtain ⟨a, ys, i, rfl, _⟩ := h; rfl) fun f cdv A outer s H vs Q E hr h => ?_
  obtain ⟨a, ys, i, rfl, hs, hi, hz, hQ⟩ := h
  refine ⟨_, PSs.nox (pss_cons (ps_set (i := 2) sc_step_lines_after.nd rfl (.inl rfl) (pe_op op_add (pv 1) pe_int))
    (pss_cons (ps_while PassesOwn.never (PW.pt (pw_and (pt_cmpR op_lt (pv 2) (pe_callB call_len_seq (by rfl) T.b_len (by decide +kernel) (pa_cons (pv 0) pa_nil)) (nomark _)) (pw_and1 (pt_val (pe_m1 PySem.F.slot_str_startswith PySem.F.type_str_startswith mt_startswith (pe_ix ix_list (pv 0) (pv 2) (fun _ _ => rfl)) (pe_gs T.c_INDENT)))))) (pss_one (ps_aug (i := 2) sc_step_lines_after.nd rfl (.inl rfl) pe_int ip_add)))
    (pss_one (ps_ret (pe_slice sl_list (pv 0) (po_some (pe_op op_add (pv 1) pe_int)) (po_some (pv 2))))))), ?_⟩
  try simp only [n_step_lines_after, L2.start, cxK, cxW, cxK', cxW', is_ss, is_si, is_ii, is_ib, is_is, is_bs, is_ns, is_ni, is_nt, Bool.not_false, Bool.not_true, tSeq, tIfS, tRet, tRetN, tNext, tNever, tAsg, gName, tVar, tC, tOp, tUn, tCons, tNil, tCB, tCall, tTest, tB, tAnd, tOr, tNot, tAndV, tOrV, tNotV, tIf, tChain, rI0, rI, rU, rEq, rNe, List.map_cons, List.map_nil, List.length_cons, List.length_nil, List.replicate, List.cons_append, List.nil_append, List.append_nil, List.getElem?_cons_zero, List.getElem?_cons_succ, List.set_cons_zero, List.set_cons_succ, Option.some.injEq, exists_eq_left', exists_eq_left, exists_eq_right, V.str.injEq, V.int.injEq, V.bl.injEq, V.ref.injEq, V.ty.injEq, List.cons.injEq, and_true, true_and, exists_and_left, Nat.zero_add, Nat.add_sub_cancel, Nat.sub_self, Nat.succ_sub_succ_eq_sub, Nat.reduceSub, Nat.reduceAdd, Nat.sub_zero, tYes, tSl, tPart, tNoPart, if_true, Bool.false_eq_true, if_false, reduceCtorEq, false_and, exists_false, or_false, false_or, scal, tLc_eq, tFor_eq, iStr, iList, iTup, RZ.iZipA, decide_false, decide_true, tM1, tM0, tDrop, tAug, ipI]
  obtain ⟨W, hW⟩ : ∃ W : Nat → L2.St → Hp → Prop, ∀ m σ' H', W m σ' H' ↔ ∃ e : Nat, σ' = [some (.ref a), some (.int i), some (.int (e : Int))] ∧ H' = H ∧ i + 1 ≤ e ∧ e ≤ ys.length ∧ m = ys.length - e ∧ blockS ys (i + 1) = (ys.drop (i + 1)).take (e - (i + 1)) ++ blockS ys e := ⟨_, fun _ _ _ => Iff.rfl⟩
  refine ⟨W, ⟨_, (hW _ _ _).mpr ⟨i + 1, rfl, rfl, Nat.le_refl _, hi, rfl, by rw [Nat.sub_self]; rfl⟩⟩, ?_⟩
  intro m σ' H' hw
  obtain ⟨e, rfl, rfl, h1, h2, rfl, h3⟩ := (hW _ _ _).mp hw
  have hex : ∀ (b : Bool), (b = true → e < ys.length ∧ ∃ y, ys[e]? = some y ∧ indB y = true) → (b = false → blockS ys e = []) →
      (if b = true then ∃ N : L2.St → Hp → Prop, (∀ σ2 H2, N σ2 H2 → ∃ m', m' < ys.length - e ∧ W m' σ2 H2) ∧ N [some (.ref a), some (.int i), some (.int ((e : Int) + 1))] H' else
        rSlL K (V.ref a) (some ((i : Int) + 1)) (some (e : Int)) H' Q) := by
    intro b ht hf
    cases b with
    | true =>
      obtain ⟨hlt, y, hy, hi2⟩ := ht rfl
      refine ⟨fun σ2 H2 => W (ys.length - (e + 1)) σ2 H2, fun σ2 H2 h => ⟨_, by omega, h⟩, (hW _ _ _).mpr ⟨e + 1, rfl, rfl, by omega, hlt, rfl, ?_⟩⟩
      rw [h3]
      have hd : ys.drop e = y :: ys.drop (e + 1) := by
        rw [List.drop_eq_getElem_cons hlt]
        rw [List.getElem?_eq_getElem hlt] at hy
        rw [Option.some.inj hy]
      have hb : blockS ys e = y :: blockS ys (e + 1) := by
        unfold blockS
        rw [hd, List.takeWhile_cons, if_pos hi2]
      have ht2 : (ys.drop (i + 1)).take (e + 1 - (i + 1)) = (ys.drop (i + 1)).take (e - (i + 1)) ++ [y] := by
        rw [show e + 1 - (i + 1) = (e - (i + 1)) + 1 by omega, List.take_add_one, List.getElem?_drop, show i + 1 + (e - (i + 1)) = e by omega, hy]
        rfl
      rw [hb, ht2, List.append_assoc]
      rfl
    | false =>
      have hb := hf rfl
      rw [hb, List.append_nil] at h3
      refine ⟨a, ys.map V.str, rfl, hs, fun p hp => hQ p _ hp (Ex.new hp) ?_⟩
      have hc : cutV (ys.map V.str) (some (((i + 1 : Nat)) : Int)) (some (e : Int)) = ((ys.map V.str).drop (i + 1)).take (e - (i + 1)) := cut_mid h1 (by rw [List.length_map]; exact h2)
      rw [upd_same, h3, List.map_take, List.map_drop, ← hc]
      rfl
  try simp only [is_ss, is_si, is_ii, is_ib, is_is, is_bs, is_ns, is_ni, is_nt, Bool.not_false, Bool.not_true, tSeq, tIfS, tRet, tRetN, tNext, tNever, tAsg, gName, tVar, tC, tOp, tUn, tCons, tNil, tCB, tCall, tTest, tB, tAnd, tOr, tNot, tAndV, tOrV, tNotV, tIf, tChain, rI0, rI, rU, rEq, rNe, List.map_cons, List.map_nil, List.length_cons, List.length_nil, List.replicate, List.cons_append, List.nil_append, List.append_nil, List.getElem?_cons_zero, List.getElem?_cons_succ, List.set_cons_zero, List.set_cons_succ, Option.some.injEq, exists_eq_left', exists_eq_left, exists_eq_right, V.str.injEq, V.int.injEq, V.bl.injEq, V.ref.injEq, V.ty.injEq, List.cons.injEq, and_true, true_and, exists_and_left, Nat.zero_add, Nat.add_sub_cancel, Nat.sub_self, Nat.succ_sub_succ_eq_sub, Nat.reduceSub, Nat.reduceAdd, Nat.sub_zero, tYes, tSl, tPart, tNoPart, if_true, Bool.false_eq_true, if_false, reduceCtorEq, false_and, exists_false, or_false, false_or, scal, tLc_eq, tFor_eq, iStr, iList, iTup, RZ.iZipA, decide_false, decide_true, tM1, tM0, tDrop, tAug, ipI]
  refine ⟨_, .inl hs, ?_⟩
  rw [List.length_map]
  by_cases hlt : e < ys.length
  · rw [if_pos (by simpa using hlt)]
    refine ixL (i := (e : Int)) (v := .str ys[e]) hs (atN (by simp [hlt])) ⟨⟨_, rfl⟩, _, rfl, ?_⟩
    rw [starts_ind]
    try simp only [is_ss, is_si, is_ii, is_ib, is_is, is_bs, is_ns, is_ni, is_nt, Bool.not_false, Bool.not_true, tSeq, tIfS, tRet, tRetN, tNext, tNever, tAsg, gName, tVar, tC, tOp, tUn, tCons, tNil, tCB, tCall, tTest, tB, tAnd, tOr, tNot, tAndV, tOrV, tNotV, tIf, tChain, rI0, rI, rU, rEq, rNe, List.map_cons, List.map_nil, List.length_cons, List.length_nil, List.replicate, List.cons_append, List.nil_append, List.append_nil, List.getElem?_cons_zero, List.getElem?_cons_succ, List.set_cons_zero, List.set_cons_succ, Option.some.injEq, exists_eq_left', exists_eq_left, exists_eq_right, V.str.injEq, V.int.injEq, V.bl.injEq, V.ref.injEq, V.ty.injEq, List.cons.injEq, and_true, true_and, exists_and_left, Nat.zero_add, Nat.add_sub_cancel, Nat.sub_self, Nat.succ_sub_succ_eq_sub, Nat.reduceSub, Nat.reduceAdd, Nat.sub_zero, tYes, tSl, tPart, tNoPart, if_true, Bool.false_eq_true, if_false, reduceCtorEq, false_and, exists_false, or_false, false_or, scal, tLc_eq, tFor_eq, iStr, iList, iTup, RZ.iZipA, decide_false, decide_true, tM1, tM0, tDrop, tAug, ipI]
    refine hex (indB ys[e]) (fun hb => ⟨hlt, ys[e], by simp [hlt], hb⟩) (fun hb => ?_)
    unfold blockS
    rw [List.drop_eq_getElem_cons hlt, List.takeWhile_cons, if_neg (by rw [hb]; decide)]
  · rw [if_neg (by simpa using hlt)]
    exact hex false (fun z => nomatch z) fun _ => by
      unfold blockS
      rw [List.drop_of_length_le (by omega)]
      rfl
/-! ### step_lines_problem -/
def wrongI (items : List V) (after : Int) (names : List Str) : Bool := match items with
  | .str wd :: rest => wrongB wd ((formK wd).getD []) rest after names
  | _ => true
def wrongRow (y : Str) (after : Int) (names : List Str) : Bool := match solM y with
  | none => true
  | some items => wrongI items after names
def badAt (ys : List Str) (names : List Str) (i : Nat) : Bool := decide (30 ≤ i) || wrongRow (ys.getD i (Str.ofString "")) ((ys.length : Int) - 1 - i) names
def probS (ys : List Str) (names : List Str) : Option Nat := (List.range ys.length).find? (badAt ys names)
def optI : Option Nat → V
  | none => .non
  | some i => .int i
theorem readW_good {ws : List Str} {items : List V} (h : readW ws = some items) (hw : ∀ y ∈ ws, y.length ≤ 30) : ∃ wd ks rest, items = .str wd :: rest ∧ formK wd = some ks ∧ StOk wd ks rest ∧ stepB ks rest = true := by
  cases ws with
  | nil => cases h
  | cons wd its =>
    cases hk : formK wd with
    | none => rw [readW_none hk] at h; cases h
    | some ks =>
      rw [readW_of hk] at h
      by_cases hc : its.length = ks.length ∧ stepB ks (convL ks its) = true
      · rw [if_pos hc] at h
        cases h
        refine ⟨wd, ks, convL ks its, rfl, hk, ⟨hk, ?_, fun k v hkv => ?_⟩, hc.2⟩
        · unfold convL
          rw [List.length_map, List.length_zip, hc.1, Nat.min_self]
        · have hz : ks.zip (convL ks its) = (ks.zip its).map fun q => (q.1, convV q.1 q.2) := by
            unfold convL
            apply List.ext_getElem
            · simp
            · intro i h1 h2
              simp
          rw [hz] at hkv
          obtain ⟨⟨k', it⟩, hm, he⟩ := List.mem_map.mp hkv
          cases he
          exact conv_ok k' it (hw it (List.mem_cons_of_mem _ (List.of_mem_zip hm).2))
      · rw [if_neg hc] at h
        cases h
theorem sol_good {y : Str} {items : List V} (h : solM y = some items) (hy : LineOk y) : ∃ wd ks rest, items = .str wd :: rest ∧ formK wd = some ks ∧ StOk wd ks rest ∧ stepB ks rest = true := by
  unfold solM at h
  split at h
  · exact readW_good h hy.rest
  · cases h
theorem find_range {p : Nat → Bool} {n i : Nat} (hi : i < n) (hp : p i = true) (hlt : ∀ j, j < i → p j = false) : (List.range n).find? p = some i := by
  rw [List.find?_range_eq_some]
  exact ⟨hp, by simpa using hi, fun j hj => by simp [hlt j hj]⟩
theorem find_none {p : Nat → Bool} {n : Nat} (h : ∀ j, j < n → p j = false) : (List.range n).find? p = none := by
  rw [List.find?_eq_none]
  intro j hj
  rw [h j (List.mem_range.mp hj)]
  decide
def spProb (K : PySem.W.Frag) : Sp := fun vs H Q _ => ∃ (a kn : Addr) (ys names : List Str), vs = [.ref a, .ref kn, .bl false] ∧ SqL K H a (ys.map V.str) ∧ SqL K H kn (names.map V.str) ∧ (∀ y ∈ ys, LineOk y) ∧ ys.length ≤ 3000000 ∧
  ∀ H', Ex H H' → Q (optI (probS ys names)) H'
theorem o_step_lines_problem (T : Tx w K mg d) (F : Fd K mg "step_lines_problem" s_step_lines_problem [("is_main", .bl false)]) (o_step_of_line : Ok0 P w K mg base 8 "step_of_line" ["line"] spSol) (o_is_wrong : Ok0 P w K mg base 6 "is_wrong" ["step", "after", "is_main", "known"] (spWrong K)) :
    OkN P w K mg base 9 "step_lines_problem" ["lines", "known", "is_main"] 1 ["known"] (fun vs zs => vs ++ (zs ++ [.bl false])) (spProb K) := by
  refine kb_steps F fun f fd FD => ?_
  refine FD.ok (k := 8) sc_step_lines_problem (fun vs H Q E h => by obtain ⟨_, _, _, _, rfl, _⟩ := h; rfl) fun cdv A outer s H vs Q E hr h => ?_
  obtain ⟨a, kn, ys, names, rfl, hs, hkn, hok, hz, hQ⟩ := h
  refine ⟨_, PSs.nox (pss_cons (ps_for PassesOwn.never rfl (pi_enum (by rfl) T.b_enumerate (pa_cons (pv 0) pa_nil)) (pg_two K (i := 3) (j := 4) sc_step_lines_problem.nd rfl rfl (.inl rfl) (.inl rfl) rfl) (pss_one (ps_if (PW.pt (pw_or (pt_cmpR op_ge (pv 3) (pe_gi T.c_MOST_STEPS) (nomark _)) (pw_or1 (pt_val (pe_c o_is_wrong (hr.mono (by decide)) pass0 (pa_cons (pe_c o_step_of_line (hr.mono (by decide)) pass0 (pa_cons (pv 4) pa_nil)) (pa_cons (pe_op op_sub (pe_op op_sub (pe_callB call_len_seq (by rfl) T.b_len (by decide +kernel) (pa_cons (pv 0) pa_nil)) pe_int) (pv 3)) (pa_cons (pv 2) (pa_cons (pv 1) pa_nil))))))))) (pss_one (ps_ret (pv 3))) pss_nil)))
    (pss_one (ps_ret pe_non))), ?_⟩
  try simp only [iEnum, n_step_lines_problem, L2.start, cxK, cxW, cxK', cxW', is_ss, is_si, is_ii, is_ib, is_is, is_bs, is_ns, is_ni, is_nt, Bool.not_false, Bool.not_true, tSeq, tIfS, tRet, tRetN, tNext, tNever, tAsg, gName, tVar, tC, tOp, tUn, tCons, tNil, tCB, tCall, tTest, tB, tAnd, tOr, tNot, tAndV, tOrV, tNotV, tIf, tChain, rI0, rI, rU, rEq, rNe, List.map_cons, List.map_nil, List.length_cons, List.length_nil, List.replicate, List.cons_append, List.nil_append, List.append_nil, List.getElem?_cons_zero, List.getElem?_cons_succ, List.set_cons_zero, List.set_cons_succ, Option.some.injEq, exists_eq_left', exists_eq_left, exists_eq_right, V.str.injEq, V.int.injEq, V.bl.injEq, V.ref.injEq, V.ty.injEq, List.cons.injEq, and_true, true_and, exists_and_left, Nat.zero_add, Nat.add_sub_cancel, Nat.sub_self, Nat.succ_sub_succ_eq_sub, Nat.reduceSub, Nat.reduceAdd, Nat.sub_zero, tYes, tSl, tPart, tNoPart, if_true, Bool.false_eq_true, if_false, reduceCtorEq, false_and, exists_false, or_false, false_or, scal, tLc_eq, tFor_eq, iStr, iList, iTup, RZ.iZipA, decide_false, decide_true, tM1, tM0, tDrop, tAug, ipI]
  refine ⟨_, hs, ?_⟩
  obtain ⟨Pv, hPv⟩ : ∃ P0 : Nat → L2.St → Hp → Prop, ∀ i σ' H', P0 i σ' H' ↔ ((∃ u v, σ' = [some (V.ref a), some (V.ref kn), some (V.bl false), u, v]) ∧ Ex H H' ∧ ∀ j, j < i → badAt ys names j = false) := ⟨_, fun _ _ _ => Iff.rfl⟩
  refine forP (goes_enum (xs := ys.map V.str) (small (by rw [List.length_map]; omega))) Pv ((hPv _ _ _).mpr ⟨⟨_, _, rfl⟩, Ex.refl _, fun j hj => absurd hj (Nat.not_lt_zero _)⟩) (fun i σ' H' p => ex_l ((hPv _ _ _).mp p).2.1 hs) ?_ ?_
  · intro i σ' H' H3 hi hp e3
    obtain ⟨⟨u, v, rfl⟩, e1, hb⟩ := (hPv _ _ _).mp hp
    rw [List.length_map] at hi
    have hii : (ys.map V.str)[i]? = some (V.str ys[i]) := by simp [hi]
    rw [hii]
    try simp only [is_ss, is_si, is_ii, is_ib, is_is, is_bs, is_ns, is_ni, is_nt, Bool.not_false, Bool.not_true, tSeq, tIfS, tRet, tRetN, tNext, tNever, tAsg, gName, tVar, tC, tOp, tUn, tCons, tNil, tCB, tCall, tTest, tB, tAnd, tOr, tNot, tAndV, tOrV, tNotV, tIf, tChain, rI0, rI, rU, rEq, rNe, List.map_cons, List.map_nil, List.length_cons, List.length_nil, List.replicate, List.cons_append, List.nil_append, List.append_nil, List.getElem?_cons_zero, List.getElem?_cons_succ, List.set_cons_zero, List.set_cons_succ, Option.some.injEq, exists_eq_left', exists_eq_left, exists_eq_right, V.str.injEq, V.int.injEq, V.bl.injEq, V.ref.injEq, V.ty.injEq, List.cons.injEq, and_true, true_and, exists_and_left, Nat.zero_add, Nat.add_sub_cancel, Nat.sub_self, Nat.succ_sub_succ_eq_sub, Nat.reduceSub, Nat.reduceAdd, Nat.sub_zero, tYes, tSl, tPart, tNoPart, if_true, Bool.false_eq_true, if_false, reduceCtorEq, false_and, exists_false, or_false, false_or, scal, tLc_eq, tFor_eq, iStr, iList, iTup, RZ.iZipA, decide_false, decide_true, tM1, tM0, tDrop, tAug, ipI]
    have eg : ys.getD i (Str.ofString "") = ys[i] := by rw [List.getD_eq_getElem?_getD, List.getElem?_eq_getElem hi]; rfl
    have go : ∀ H4, Ex H3 H4 → badAt ys names i = true → Q (.int (i : Int)) H4 := by
      intro H4 e4 hbad
      have q := hQ H4 ((e1.trans e3).trans e4)
      have e5 : probS ys names = some i := find_range hi hbad hb
      rw [e5] at q
      exact q
    by_cases h30 : (30 : Int) ≤ (i : Int)
    · rw [if_pos (decide_eq_true h30)]
      try simp only [is_ss, is_si, is_ii, is_ib, is_is, is_bs, is_ns, is_ni, is_nt, Bool.not_false, Bool.not_true, tSeq, tIfS, tRet, tRetN, tNext, tNever, tAsg, gName, tVar, tC, tOp, tUn, tCons, tNil, tCB, tCall, tTest, tB, tAnd, tOr, tNot, tAndV, tOrV, tNotV, tIf, tChain, rI0, rI, rU, rEq, rNe, List.map_cons, List.map_nil, List.length_cons, List.length_nil, List.replicate, List.cons_append, List.nil_append, List.append_nil, List.getElem?_cons_zero, List.getElem?_cons_succ, List.set_cons_zero, List.set_cons_succ, Option.some.injEq, exists_eq_left', exists_eq_left, exists_eq_right, V.str.injEq, V.int.injEq, V.bl.injEq, V.ref.injEq, V.ty.injEq, List.cons.injEq, and_true, true_and, exists_and_left, Nat.zero_add, Nat.add_sub_cancel, Nat.sub_self, Nat.succ_sub_succ_eq_sub, Nat.reduceSub, Nat.reduceAdd, Nat.sub_zero, tYes, tSl, tPart, tNoPart, if_true, Bool.false_eq_true, if_false, reduceCtorEq, false_and, exists_false, or_false, false_or, scal, tLc_eq, tFor_eq, iStr, iList, iTup, RZ.iZipA, decide_false, decide_true, tM1, tM0, tDrop, tAug, ipI]
      refine go H3 (Ex.refl _) ?_
      unfold badAt
      rw [decide_eq_true (by omega : 30 ≤ i), Bool.true_or]
    · rw [if_neg (by simpa using h30)]
      have h30' : decide (30 ≤ i) = false := decide_eq_false (by omega)
      have hline := hok ys[i] (List.getElem_mem hi)
      have after : ∀ (b : Bool) H4, Ex H3 H4 → wrongRow ys[i] ((ys.length : Int) - 1 - i) names = b → (if b = true then Q (V.int (i : Int)) H4 else Pv (i + 1) [some (V.ref a), some (V.ref kn), some (V.bl false), some (V.int (i : Int)), some (V.str ys[i])] H4) := by
        intro b H4 e4 hb4
        have hbad : badAt ys names i = b := by
          unfold badAt
          rw [h30', Bool.false_or, eg, hb4]
        cases b with
        | true => exact go H4 e4 hbad
        | false =>
          refine (hPv _ _ _).mpr ⟨⟨_, _, rfl⟩, (e1.trans e3).trans e4, fun j hj => ?_⟩
          by_cases hji : j = i
          · rw [hji]; exact hbad
          · exact hb j (by omega)
      refine ⟨ys[i], rfl, hline, fun items hit p H4 e4 hp4 => ?_, fun hn H4 e4 => ?_⟩
      · obtain ⟨wd, ks, rest, rfl, hk, hst, hsb⟩ := sol_good hit hline
        refine ⟨_, .inl (ex_l ((e1.trans e3).trans e4) hs), ?_⟩
        rw [List.length_map]
        refine ⟨.ref p, (ys.length : Int) - 1 - i, kn, names, rfl, ex_l ((e1.trans e3).trans e4) hkn, .inr ⟨p, wd, ks, rest, rfl, ⟨hp4, hst, hsb⟩, fun H5 e5 => ⟨_, rfl, ?_⟩⟩⟩
        refine after _ H5 (e4.trans e5) ?_
        unfold wrongRow
        rw [hit]
        show wrongB wd ((formK wd).getD []) rest _ names = _
        rw [hk]
        rfl
      · refine ⟨_, .inl (ex_l ((e1.trans e3).trans e4) hs), ?_⟩
        rw [List.length_map]
        refine ⟨.non, (ys.length : Int) - 1 - i, kn, names, rfl, ex_l ((e1.trans e3).trans e4) hkn, .inl ⟨rfl, fun H5 e5 => ⟨_, rfl, ?_⟩⟩⟩
        refine after true H5 (e4.trans e5) ?_
        unfold wrongRow
        rw [hn]
  · intro σ' H' hp
    obtain ⟨⟨u, v, rfl⟩, e1, hb⟩ := (hPv _ _ _).mp hp
    rw [List.length_map] at hb
    have q := hQ H' e1
    have e5 : probS ys names = none := find_none hb
    rw [e5] at q
    try simp only [is_ss, is_si, is_ii, is_ib, is_is, is_bs, is_ns, is_ni, is_nt, Bool.not_false, Bool.not_true, tSeq, tIfS, tRet, tRetN, tNext, tNever, tAsg, gName, tVar, tC, tOp, tUn, tCons, tNil, tCB, tCall, tTest, tB, tAnd, tOr, tNot, tAndV, tOrV, tNotV, tIf, tChain, rI0, rI, rU, rEq, rNe, List.map_cons, List.map_nil, List.length_cons, List.length_nil, List.replicate, List.cons_append, List.nil_append, List.append_nil, List.getElem?_cons_zero, List.getElem?_cons_succ, List.set_cons_zero, List.set_cons_succ, Option.some.injEq, exists_eq_left', exists_eq_left, exists_eq_right, V.str.injEq, V.int.injEq, V.bl.injEq, V.ref.injEq, V.ty.injEq, List.cons.injEq, and_true, true_and, exists_and_left, Nat.zero_add, Nat.add_sub_cancel, Nat.sub_self, Nat.succ_sub_succ_eq_sub, Nat.reduceSub, Nat.reduceAdd, Nat.sub_zero, tYes, tSl, tPart, tNoPart, if_true, Bool.false_eq_true, if_false, reduceCtorEq, false_and, exists_false, or_false, false_or, scal, tLc_eq, tFor_eq, iStr, iList, iTup, RZ.iZipA, decide_false, decide_true, tM1, tM0, tDrop, tAug, ipI]
    exact q

end K17

-- text K17P7
set_option maxHeartbeats 8000000
namespace K17
open PySem PySem.Spec PyProof.Rows L2 Evl
variable {P : Program} {w : World} {K : PySem.W.Frag} {mg : Str → Option Value} {base : Heap} {d : Ad}
/-! ## first_wrong -/
def leS (m b : Str) : Bool := !decide (b.cps.toList < m.cps.toList)
def fwM (ys names : List Str) : Nat → Nat → Nat → Str → Option Nat
  | 0, _, _, _ => none
  | f + 1, i, c, b => if i < ys.length then
      match modS (ys.getD i (Str.ofString "")) with
      | none => some i
      | some m => if (leS m b || decide (40 < c + 1)) = true then some i else
          match probS (blockS ys (i + 1)) names with
          | some k => some (i + 1 + k)
          | none => fwM ys names f (i + 1 + (blockS ys (i + 1)).length) (c + 1) m
    else none
theorem block_len (ys : List Str) (j : Nat) : (blockS ys j).length ≤ ys.length - j := by
  unfold blockS
  have h := (List.takeWhile_sublist (p := indB) (l := ys.drop j)).length_le
  rw [List.length_drop] at h
  exact h
theorem block_mem {ys : List Str} {j : Nat} {y : Str} (h : y ∈ blockS ys j) : y ∈ ys := List.mem_of_mem_drop ((List.takeWhile_sublist (p := indB) (l := ys.drop j)).subset h)
def spFirst (K : PySem.W.Frag) : Sp := fun vs H Q _ => ∃ (a kn : Addr) (ys names : List Str), vs = [.ref a, .ref kn] ∧ SqL K H a (ys.map V.str) ∧ SqL K H kn (names.map V.str) ∧ (∀ y ∈ ys, LineOk y) ∧ ys.length ≤ 3000000 ∧
  ∀ H', Ex H H' → Q (optI (fwM ys names (ys.length + 1) 0 0 (Str.ofString ""))) H'
theorem o_first_wrong (T : Tx w K mg d) (F : Fd K mg "first_wrong" s_first_wrong []) (o_module_of_line : Ok0 P w K mg base 4 "module_of_line" ["line"] spMol) (o_step_lines_after : Ok0 P w K mg base 3 "step_lines_after" ["lines", "index"] (spAfter K))
    (o_step_lines_problem : OkN P w K mg base 9 "step_lines_problem" ["lines", "known", "is_main"] 1 ["known"] (fun vs zs => vs ++ (zs ++ [.bl false])) (spProb K)) : Ok0 P w K mg base 10 "first_wrong" ["lines", "known"] (spFirst K) := by
  refine mkOk 9 F sc_first_wrong (fun _ _ _ _ _ _ us hl => match us, hl with | [_, _], _ => rfl) (fun vs H Q E h => by obtain ⟨_, _, _, _, rfl, _⟩ := h; rfl) fun f cdv A outer s H vs Q E hr h => ?_
  obtain ⟨a, kn, ys, names, rfl, hs, hkn, hok, hz, hQ⟩ := h
  refine ⟨_, PSs.nox (pss_cons (ps_asg (pe_tup (pa_cons pe_int (pa_cons pe_int (pa_cons pe_str pa_nil)))) (pg_tup (by rfl) (pgs_cons (pg_name (i := 2) sc_first_wrong.nd rfl (.inl rfl)) (pgs_cons (pg_name (i := 3) sc_first_wrong.nd rfl (.inl rfl)) (pgs_cons (pg_name (i := 4) sc_first_wrong.nd rfl (.inl rfl)) pgs_nil)))))
    (pss_cons (ps_while PassesOwn.never (pt_cmpR op_lt (pv 2) (pe_callB call_len_seq (by rfl) T.b_len (by decide +kernel) (pa_cons (pv 0) pa_nil)) (nomark _)) (pss_cons (ps_set (i := 5) sc_first_wrong.nd rfl (.inl rfl) (pe_c o_module_of_line (hr.mono (by decide)) pass0 (pa_cons (pe_ix ix_list (pv 0) (pv 2) (fun _ _ => rfl)) pa_nil)))
    (pss_cons (ps_aug (i := 3) sc_first_wrong.nd rfl (.inl rfl) pe_int ip_add)
    (pss_cons (ps_if (PW.pt (pw_or (pt_cmpR op_isN (pv 5) pe_non (nomark _)) (pw_or (pt_cmpR op_le_str (pv 5) (pv 4) (nomark _)) (pw_or1 (pt_cmpR op_gt (pv 3) (pe_gi T.c_MOST_MODULES) (nomark _)))))) (pss_one (ps_ret (pv 2))) pss_nil)
    (pss_cons (ps_set (i := 6) sc_first_wrong.nd rfl (.inl rfl) (pe_c o_step_lines_after (hr.mono (by decide)) pass0 (pa_cons (pv 0) (pa_cons (pv 2) pa_nil))))
    (pss_cons (ps_set (i := 7) sc_first_wrong.nd rfl (.inl rfl) (pe_cN o_step_lines_problem (hr.mono (by decide)) pass0 (pa_cons (pv 6) pa_nil) (pk_cons (pv 1) pk_nil)))
    (pss_cons (ps_if (pt_cmpR op_notN (pv 7) pe_non (nomark _)) (pss_one (ps_ret (pe_op op_add (pe_op op_add (pv 2) pe_int) (pv 7)))) pss_nil)
    (pss_one (ps_par (i := 2) (j := 4) rfl sc_first_wrong.nd rfl rfl (by decide) rfl rfl (pa_cons (pe_op op_add (pe_op op_add (pv 2) pe_int) (pe_callB call_len_seq (by rfl) T.b_len (by decide +kernel) (pa_cons (pv 6) pa_nil))) (pa_cons (pv 5) pa_nil)) rfl)))))))))
    (pss_one (ps_ret pe_non)))), ?_⟩
  try simp only [tTup, gTup, gCons, gNil, n_first_wrong, L2.start, cxK, cxW, cxK', cxW', is_ss, is_si, is_ii, is_ib, is_is, is_bs, is_ns, is_ni, is_nt, Bool.not_false, Bool.not_true, tSeq, tIfS, tRet, tRetN, tNext, tNever, tAsg, gName, tVar, tC, tOp, tUn, tCons, tNil, tCB, tCall, tTest, tB, tAnd, tOr, tNot, tAndV, tOrV, tNotV, tIf, tChain, rI0, rI, rU, rEq, rNe, List.map_cons, List.map_nil, List.length_cons, List.length_nil, List.replicate, List.cons_append, List.nil_append, List.append_nil, List.getElem?_cons_zero, List.getElem?_cons_succ, List.set_cons_zero, List.set_cons_succ, Option.some.injEq, exists_eq_left', exists_eq_left, exists_eq_right, V.str.injEq, V.int.injEq, V.bl.injEq, V.ref.injEq, V.ty.injEq, List.cons.injEq, and_true, true_and, exists_and_left, Nat.zero_add, Nat.add_sub_cancel, Nat.sub_self, Nat.succ_sub_succ_eq_sub, Nat.reduceSub, Nat.reduceAdd, Nat.sub_zero, tYes, tSl, tPart, tNoPart, if_true, Bool.false_eq_true, if_false, reduceCtorEq, false_and, exists_false, or_false, false_or, scal, tLc_eq, tFor_eq, iStr, iList, iTup, RZ.iZipA, decide_false, decide_true, tM1, tM0, tDrop, tAug, ipI]
  refine ⟨Nat.le_of_ble_eq_true rfl, fun tp htp => ⟨_, SqT.of upd_same, rfl, _, _, rfl, _, _, rfl, _, _, rfl, rfl, ?_⟩⟩
  have e0 : Ex H (upd H tp (.tup [V.int 0, V.int 0, V.str (Str.ofString "")])) := Ex.new htp
  try simp only [is_ss, is_si, is_ii, is_ib, is_is, is_bs, is_ns, is_ni, is_nt, Bool.not_false, Bool.not_true, tSeq, tIfS, tRet, tRetN, tNext, tNever, tAsg, gName, tVar, tC, tOp, tUn, tCons, tNil, tCB, tCall, tTest, tB, tAnd, tOr, tNot, tAndV, tOrV, tNotV, tIf, tChain, rI0, rI, rU, rEq, rNe, List.map_cons, List.map_nil, List.length_cons, List.length_nil, List.replicate, List.cons_append, List.nil_append, List.append_nil, List.getElem?_cons_zero, List.getElem?_cons_succ, List.set_cons_zero, List.set_cons_succ, Option.some.injEq, exists_eq_left', exists_eq_left, exists_eq_right, V.str.injEq, V.int.injEq, V.bl.injEq, V.ref.injEq, V.ty.injEq, List.cons.injEq, and_true, true_and, exists_and_left, Nat.zero_add, Nat.add_sub_cancel, Nat.sub_self, Nat.succ_sub_succ_eq_sub, Nat.reduceSub, Nat.reduceAdd, Nat.sub_zero, tYes, tSl, tPart, tNoPart, if_true, Bool.false_eq_true, if_false, reduceCtorEq, false_and, exists_false, or_false, false_or, scal, tLc_eq, tFor_eq, iStr, iList, iTup, RZ.iZipA, decide_false, decide_true, tM1, tM0, tDrop, tAug, ipI]
  obtain ⟨W, hW⟩ : ∃ W : Nat → L2.St → Hp → Prop, ∀ m σ' H', W m σ' H' ↔ ∃ (i c : Nat) (b : Str) (x5 x6 x7 : Option V) (fu : Nat), σ' = [some (.ref a), some (.ref kn), some (.int (i : Int)), some (.int (c : Int)), some (.str b), x5, x6, x7] ∧ Ex H H' ∧ m = ys.length - i ∧ ys.length - i + 1 ≤ fu ∧
      fwM ys names (ys.length + 1) 0 0 (Str.ofString "") = fwM ys names fu i c b := ⟨_, fun _ _ _ => Iff.rfl⟩
  refine ⟨W, ⟨_, (hW _ _ _).mpr ⟨0, 0, Str.ofString "", none, none, none, ys.length + 1, rfl, e0, rfl, by omega, rfl⟩⟩, ?_⟩
  intro m σ' H' hw
  obtain ⟨i, c, b, x5, x6, x7, fu, rfl, e1, rfl, hfu, hfw⟩ := (hW _ _ _).mp hw
  try simp only [tCallN, is_ss, is_si, is_ii, is_ib, is_is, is_bs, is_ns, is_ni, is_nt, Bool.not_false, Bool.not_true, tSeq, tIfS, tRet, tRetN, tNext, tNever, tAsg, gName, tVar, tC, tOp, tUn, tCons, tNil, tCB, tCall, tTest, tB, tAnd, tOr, tNot, tAndV, tOrV, tNotV, tIf, tChain, rI0, rI, rU, rEq, rNe, List.map_cons, List.map_nil, List.length_cons, List.length_nil, List.replicate, List.cons_append, List.nil_append, List.append_nil, List.getElem?_cons_zero, List.getElem?_cons_succ, List.set_cons_zero, List.set_cons_succ, Option.some.injEq, exists_eq_left', exists_eq_left, exists_eq_right, V.str.injEq, V.int.injEq, V.bl.injEq, V.ref.injEq, V.ty.injEq, List.cons.injEq, and_true, true_and, exists_and_left, Nat.zero_add, Nat.add_sub_cancel, Nat.sub_self, Nat.succ_sub_succ_eq_sub, Nat.reduceSub, Nat.reduceAdd, Nat.sub_zero, tYes, tSl, tPart, tNoPart, if_true, Bool.false_eq_true, if_false, reduceCtorEq, false_and, exists_false, or_false, false_or, scal, tLc_eq, tFor_eq, iStr, iList, iTup, RZ.iZipA, decide_false, decide_true, tM1, tM0, tDrop, tAug, ipI]
  refine ⟨_, .inl (ex_l e1 hs), ?_⟩
  rw [List.length_map]
  obtain ⟨fu', rfl⟩ : ∃ k, fu = k + 1 := ⟨fu - 1, by omega⟩
  have hQ' : ∀ H2, Ex H' H2 → ∀ o, fwM ys names (fu' + 1) i c b = o → Q (optI o) H2 := fun H2 e2 o ho => by
    have q := hQ H2 (e1.trans e2)
    rw [hfw, ho] at q
    exact q
  by_cases hi : i < ys.length
  · rw [if_pos (by simpa using hi)]
    have hii : (ys.map V.str)[i]? = some (V.str ys[i]) := by simp [hi]
    have hline := hok ys[i] (List.getElem_mem hi)
    have eg : ys.getD i (Str.ofString "") = ys[i] := by rw [List.getD_eq_getElem?_getD, List.getElem?_eq_getElem hi]; rfl
    have unf : fwM ys names (fu' + 1) i c b = (match modS ys[i] with
      | none => some i
      | some m => if (leS m b || decide (40 < c + 1)) = true then some i else
          match probS (blockS ys (i + 1)) names with
          | some k => some (i + 1 + k)
          | none => fwM ys names fu' (i + 1 + (blockS ys (i + 1)).length) (c + 1) m) := by
      show (if i < ys.length then _ else none) = _
      rw [if_pos hi, eg]
    refine ⟨fun σ2 H2 => ∃ m', m' < ys.length - i ∧ W m' σ2 H2, fun σ2 H2 h => h, ?_⟩
    refine ixL (ex_l e1 hs) (atN hii) ⟨ys[i], rfl, by have := hline.len; omega, fun H2 e2 => ?_⟩
    cases hm : modS ys[i] with
    | none =>
      show (if decide (V.non = V.non) = true then _ else _)
      rw [if_pos (by rfl)]
      refine hQ' H2 e2 (some i) ?_
      rw [unf, hm]
    | some m =>
      show (if decide (V.str m = V.non) = true then _ else _)
      rw [if_neg (by simp)]
      refine ⟨m, rfl, ?_⟩
      have unf2 : fwM ys names (fu' + 1) i c b = (if (leS m b || decide (40 < c + 1)) = true then some i else
          match probS (blockS ys (i + 1)) names with
          | some k => some (i + 1 + k)
          | none => fwM ys names fu' (i + 1 + (blockS ys (i + 1)).length) (c + 1) m) := by rw [unf, hm]
      rw [show (!decide (b.cps.toList < m.cps.toList)) = leS m b from rfl]
      by_cases hle : leS m b = true
      · rw [if_pos hle]
        refine hQ' H2 e2 (some i) ?_
        rw [unf2, hle, Bool.true_or, if_pos rfl]
      · rw [if_neg hle]
        by_cases h40 : (40 : Int) < (c : Int) + 1
        · rw [if_pos (decide_eq_true h40)]
          refine hQ' H2 e2 (some i) ?_
          rw [unf2, decide_eq_true (show 40 < c + 1 by omega), Bool.or_true, if_pos rfl]
        · rw [if_neg (by simpa using h40)]
          have unf3 : fwM ys names (fu' + 1) i c b = (match probS (blockS ys (i + 1)) names with
              | some k => some (i + 1 + k)
              | none => fwM ys names fu' (i + 1 + (blockS ys (i + 1)).length) (c + 1) m) := by
            rw [unf2, if_neg]
            rw [Bool.or_eq_true, decide_eq_true_eq]
            rintro (z | z)
            · exact hle z
            · omega
          have hbl := block_len ys (i + 1)
          refine ⟨a, ys, i, rfl, ex_l (e1.trans e2) hs, hi, hz, fun bp H3 hbp e3 hb3 => ?_⟩
          refine ⟨bp, kn, blockS ys (i + 1), names, rfl, SqL.of hb3, ex_l ((e1.trans e2).trans e3) hkn, fun y hy => hok y (block_mem hy), by omega, fun H4 e4 => ?_⟩
          cases hp : probS (blockS ys (i + 1)) names with
          | some k =>
            show (if (!decide (V.int (k : Int) = V.non)) = true then _ else _)
            rw [if_pos (by simp)]
            refine ⟨_, rfl, ?_⟩
            exact hQ' H4 ((e2.trans e3).trans e4) (some (i + 1 + k)) (by rw [unf3, hp])
          | none =>
            show (if (!decide (V.non = V.non)) = true then _ else _)
            rw [if_neg (by simp)]
            try simp only [tPar, is_ss, is_si, is_ii, is_ib, is_is, is_bs, is_ns, is_ni, is_nt, Bool.not_false, Bool.not_true, tSeq, tIfS, tRet, tRetN, tNext, tNever, tAsg, gName, tVar, tC, tOp, tUn, tCons, tNil, tCB, tCall, tTest, tB, tAnd, tOr, tNot, tAndV, tOrV, tNotV, tIf, tChain, rI0, rI, rU, rEq, rNe, List.map_cons, List.map_nil, List.length_cons, List.length_nil, List.replicate, List.cons_append, List.nil_append, List.append_nil, List.getElem?_cons_zero, List.getElem?_cons_succ, List.set_cons_zero, List.set_cons_succ, Option.some.injEq, exists_eq_left', exists_eq_left, exists_eq_right, V.str.injEq, V.int.injEq, V.bl.injEq, V.ref.injEq, V.ty.injEq, List.cons.injEq, and_true, true_and, exists_and_left, Nat.zero_add, Nat.add_sub_cancel, Nat.sub_self, Nat.succ_sub_succ_eq_sub, Nat.reduceSub, Nat.reduceAdd, Nat.sub_zero, tYes, tSl, tPart, tNoPart, if_true, Bool.false_eq_true, if_false, reduceCtorEq, false_and, exists_false, or_false, false_or, scal, tLc_eq, tFor_eq, iStr, iList, iTup, RZ.iZipA, decide_false, decide_true, tM1, tM0, tDrop, tAug, ipI]
            refine ⟨_, .inl (SqL.of (e4 bp _ hb3)), ?_⟩
            rw [List.length_map]
            refine ⟨_, _, ⟨rfl, rfl⟩, ys.length - (i + 1 + (blockS ys (i + 1)).length), by omega, (hW _ _ _).mpr ⟨i + 1 + (blockS ys (i + 1)).length, c + 1, m, _, _, _, fu', rfl, ((e1.trans e2).trans e3).trans e4, rfl, by omega, ?_⟩⟩
            rw [hfw, unf3, hp]
  · rw [if_neg (by simpa using hi)]
    try simp only [is_ss, is_si, is_ii, is_ib, is_is, is_bs, is_ns, is_ni, is_nt, Bool.not_false, Bool.not_true, tSeq, tIfS, tRet, tRetN, tNext, tNever, tAsg, gName, tVar, tC, tOp, tUn, tCons, tNil, tCB, tCall, tTest, tB, tAnd, tOr, tNot, tAndV, tOrV, tNotV, tIf, tChain, rI0, rI, rU, rEq, rNe, List.map_cons, List.map_nil, List.length_cons, List.length_nil, List.replicate, List.cons_append, List.nil_append, List.append_nil, List.getElem?_cons_zero, List.getElem?_cons_succ, List.set_cons_zero, List.set_cons_succ, Option.some.injEq, exists_eq_left', exists_eq_left, exists_eq_right, V.str.injEq, V.int.injEq, V.bl.injEq, V.ref.injEq, V.ty.injEq, List.cons.injEq, and_true, true_and, exists_and_left, Nat.zero_add, Nat.add_sub_cancel, Nat.sub_self, Nat.succ_sub_succ_eq_sub, Nat.reduceSub, Nat.reduceAdd, Nat.sub_zero, tYes, tSl, tPart, tNoPart, if_true, Bool.false_eq_true, if_false, reduceCtorEq, false_and, exists_false, or_false, false_or, scal, tLc_eq, tFor_eq, iStr, iList, iTup, RZ.iZipA, decide_false, decide_true, tM1, tM0, tDrop, tAug, ipI]
    have e5 : fwM ys names (fu' + 1) i c b = none := by
      show (if i < ys.length then _ else none) = _
      rw [if_neg hi]
    exact hQ' H' (Ex.refl _) none e5

end K17

-- text K17P8
set_option maxHeartbeats 8000000
namespace K17
open PySem PySem.Spec PyProof.Rows L2 Evl
variable {P : Program} {w : World} {K : PySem.W.Frag} {mg : Str → Option Value} {base : Heap} {d : Ad}
/-! ## first_problem, check_library: where nothing is wrong -/
/-- refs to steps that are right in a block of n rows -/
def RightSt (H : Hp) (names : List Str) (n : Nat) (i : Nat) (v : V) : Prop := ∃ (r : Addr) (wd : Str) (ks : List Str) (rest : List V), v = .ref r ∧ GoodSt H r wd ks rest ∧ wrongB wd ks rest ((n : Int) - 1 - (i : Nat)) names = false
theorem GoodSt.mono {H H' : Hp} {a : Addr} {wd : Str} {ks : List Str} {rest : List V} (g : GoodSt H a wd ks rest) (e : Ex H H') : GoodSt H' a wd ks rest := ⟨e a _ g.1, g.2⟩
theorem RightSt.mono {H H' : Hp} {names : List Str} {n i : Nat} {v : V} (g : RightSt H names n i v) (e : Ex H H') : RightSt H' names n i v := by
  obtain ⟨r, wd, ks, rest, h1, h2, h3⟩ := g
  exact ⟨r, wd, ks, rest, h1, h2.mono e, h3⟩
def spFProb (K : PySem.W.Frag) : Sp := fun vs H Q _ => ∃ (a kn : Addr) (xs : List V) (names : List Str), vs = [.ref a, .bl false, .ref kn] ∧ H a = some (.lst xs) ∧ SqL K H kn (names.map V.str) ∧ xs.length ≤ 30 ∧ (∀ i v, xs[i]? = some v → RightSt H names xs.length i v) ∧
  ∀ H', Ex H H' → Q .non H'
theorem o_first_problem (T : Tx w K mg d) (F : Fd K mg "first_problem" s_first_problem [("is_main", .bl false), ("known", .non)]) (o_is_wrong : Ok0 P w K mg base 6 "is_wrong" ["step", "after", "is_main", "known"] (spWrong K)) :
    OkN P w K mg base 8 "first_problem" ["value", "is_main", "known"] 1 ["known"] (fun vs zs => vs ++ ([.bl false] ++ zs)) (spFProb K) := by
  refine kb_first F fun f fd FD => ?_
  refine FD.ok (k := 7) sc_first_problem (fun vs H Q E h => by obtain ⟨_, _, _, _, rfl, _⟩ := h; rfl) fun cdv A outer s H vs Q E hr h => ?_
  obtain ⟨a, kn, xs, names, rfl, hs, hkn, hz, hok, hQ⟩ := h
  refine ⟨_, PSs.nox (pss_cons (ps_if (PW.pt (pw_or (pt_not (pt_val (pe_callB call_isV (by rfl) T.b_isinstance (by decide +kernel) (pa_cons (pv 0) (pa_cons (pe_bltn (v := .ty "list") (u := .type "list") (by rfl) T.b_list (by decide +kernel) rfl) pa_nil))))) (pw_or1 (pt_cmpR op_gt (pe_callB call_len_seq (by rfl) T.b_len (by decide +kernel) (pa_cons (pv 0) pa_nil)) (pe_gi T.c_MOST_STEPS) (nomark _))))) (pss_one (ps_ret (pe_un un_neg pe_int))) pss_nil)
    (pss_cons (ps_for PassesOwn.never rfl (pi_enum (by rfl) T.b_enumerate (pa_cons (pv 0) pa_nil)) (pg_two K (i := 3) (j := 4) sc_first_problem.nd rfl rfl (.inl rfl) (.inl rfl) rfl) (pss_one (ps_if (pt_val (pe_c o_is_wrong (hr.mono (by decide)) pass0 (pa_cons (pv 4) (pa_cons (pe_op op_sub (pe_op op_sub (pe_callB call_len_seq (by rfl) T.b_len (by decide +kernel) (pa_cons (pv 0) pa_nil)) pe_int) (pv 3)) (pa_cons (pv 1) (pa_cons (pv 2) pa_nil)))))) (pss_one (ps_ret (pv 3))) pss_nil)))
    (pss_one (ps_ret pe_non)))), ?_⟩
  try simp only [iEnum, n_first_problem, L2.start, cxK, cxW, cxK', cxW', is_ss, is_si, is_ii, is_ib, is_is, is_bs, is_ns, is_ni, is_nt, Bool.not_false, Bool.not_true, tSeq, tIfS, tRet, tRetN, tNext, tNever, tAsg, gName, tVar, tC, tOp, tUn, tCons, tNil, tCB, tCall, tTest, tB, tAnd, tOr, tNot, tAndV, tOrV, tNotV, tIf, tChain, rI0, rI, rU, rEq, rNe, List.map_cons, List.map_nil, List.length_cons, List.length_nil, List.replicate, List.cons_append, List.nil_append, List.append_nil, List.getElem?_cons_zero, List.getElem?_cons_succ, List.set_cons_zero, List.set_cons_succ, Option.some.injEq, exists_eq_left', exists_eq_left, exists_eq_right, V.str.injEq, V.int.injEq, V.bl.injEq, V.ref.injEq, V.ty.injEq, List.cons.injEq, and_true, true_and, exists_and_left, Nat.zero_add, Nat.add_sub_cancel, Nat.sub_self, Nat.succ_sub_succ_eq_sub, Nat.reduceSub, Nat.reduceAdd, Nat.sub_zero, tYes, tSl, tPart, tNoPart, if_true, Bool.false_eq_true, if_false, reduceCtorEq, false_and, exists_false, or_false, false_or, scal, tLc_eq, tFor_eq, iStr, iList, iTup, RZ.iZipA, decide_false, decide_true, tM1, tM0, tDrop, tAug, ipI]
  refine is_ll hs ⟨true, rfl, ?_⟩
  rw [if_neg (by decide)]
  refine ⟨_, .inl (SqL.of hs), ?_⟩
  rw [if_neg (by simp; omega)]
  refine ⟨xs, SqL.of hs, ?_⟩
  obtain ⟨Pv, hPv⟩ : ∃ P0 : Nat → L2.St → Hp → Prop, ∀ i σ' H', P0 i σ' H' ↔ ((∃ u v, σ' = [some (V.ref a), some (V.bl false), some (V.ref kn), u, v]) ∧ Ex H H') := ⟨_, fun _ _ _ => Iff.rfl⟩
  refine forP (goes_enum (xs := xs) (small (by omega))) Pv ((hPv _ _ _).mpr ⟨⟨_, _, rfl⟩, Ex.refl _⟩) (fun i σ' H' p => ex_l ((hPv _ _ _).mp p).2 (SqL.of hs)) ?_ ?_
  · intro i σ' H' H3 hi hp e3
    obtain ⟨⟨u, v, rfl⟩, e1⟩ := (hPv _ _ _).mp hp
    have hii : xs[i]? = some xs[i] := by simp [hi]
    rw [hii]
    obtain ⟨r, wd, ks, rest, hr1, hg, hw⟩ := hok i _ hii
    rw [hr1]
    try simp only [is_ss, is_si, is_ii, is_ib, is_is, is_bs, is_ns, is_ni, is_nt, Bool.not_false, Bool.not_true, tSeq, tIfS, tRet, tRetN, tNext, tNever, tAsg, gName, tVar, tC, tOp, tUn, tCons, tNil, tCB, tCall, tTest, tB, tAnd, tOr, tNot, tAndV, tOrV, tNotV, tIf, tChain, rI0, rI, rU, rEq, rNe, List.map_cons, List.map_nil, List.length_cons, List.length_nil, List.replicate, List.cons_append, List.nil_append, List.append_nil, List.getElem?_cons_zero, List.getElem?_cons_succ, List.set_cons_zero, List.set_cons_succ, Option.some.injEq, exists_eq_left', exists_eq_left, exists_eq_right, V.str.injEq, V.int.injEq, V.bl.injEq, V.ref.injEq, V.ty.injEq, List.cons.injEq, and_true, true_and, exists_and_left, Nat.zero_add, Nat.add_sub_cancel, Nat.sub_self, Nat.succ_sub_succ_eq_sub, Nat.reduceSub, Nat.reduceAdd, Nat.sub_zero, tYes, tSl, tPart, tNoPart, if_true, Bool.false_eq_true, if_false, reduceCtorEq, false_and, exists_false, or_false, false_or, scal, tLc_eq, tFor_eq, iStr, iList, iTup, RZ.iZipA, decide_false, decide_true, tM1, tM0, tDrop, tAug, ipI]
    refine ⟨_, .inl (SqL.of ((e1.trans e3) a _ hs)), ?_⟩
    refine ⟨.ref r, (xs.length : Int) - 1 - i, kn, names, rfl, ex_l (e1.trans e3) hkn, .inr ⟨r, wd, ks, rest, rfl, hg.mono (e1.trans e3), fun H5 e5 => ⟨_, rfl, ?_⟩⟩⟩
    rw [hw, if_neg (by decide)]
    exact (hPv _ _ _).mpr ⟨⟨_, _, rfl⟩, (e1.trans e3).trans e5⟩
  · intro σ' H' hp
    obtain ⟨⟨u, v, rfl⟩, e1⟩ := (hPv _ _ _).mp hp
    try simp only [is_ss, is_si, is_ii, is_ib, is_is, is_bs, is_ns, is_ni, is_nt, Bool.not_false, Bool.not_true, tSeq, tIfS, tRet, tRetN, tNext, tNever, tAsg, gName, tVar, tC, tOp, tUn, tCons, tNil, tCB, tCall, tTest, tB, tAnd, tOr, tNot, tAndV, tOrV, tNotV, tIf, tChain, rI0, rI, rU, rEq, rNe, List.map_cons, List.map_nil, List.length_cons, List.length_nil, List.replicate, List.cons_append, List.nil_append, List.append_nil, List.getElem?_cons_zero, List.getElem?_cons_succ, List.set_cons_zero, List.set_cons_succ, Option.some.injEq, exists_eq_left', exists_eq_left, exists_eq_right, V.str.injEq, V.int.injEq, V.bl.injEq, V.ref.injEq, V.ty.injEq, List.cons.injEq, and_true, true_and, exists_and_left, Nat.zero_add, Nat.add_sub_cancel, Nat.sub_self, Nat.succ_sub_succ_eq_sub, Nat.reduceSub, Nat.reduceAdd, Nat.sub_zero, tYes, tSl, tPart, tNoPart, if_true, Bool.false_eq_true, if_false, reduceCtorEq, false_and, exists_false, or_false, false_or, scal, tLc_eq, tFor_eq, iStr, iList, iTup, RZ.iZipA, decide_false, decide_true, tM1, tM0, tDrop, tAug, ipI]
    exact hQ H' e1
/-! ### the dict of programs -/
abbrev Mo := Str × Addr × List Str
def kvsM (ms : List Mo) : List (Key × V) := ms.map fun m => ((Sum.inr m.1 : Key), V.ref m.2.1)
theorem keysM (ms : List Mo) : (kvsM ms).map (fun kv => kV kv.1) = (ms.map (·.1)).map V.str := by
  unfold kvsM
  rw [List.map_map, List.map_map]
  rfl
/-- refs to the steps of these rows -/
def ProgL (H : Hp) (xs : List V) (rows : List Str) : Prop := xs.length = rows.length ∧ ∀ (i : Nat) (y : Str), rows[i]? = some y → ∃ (r : Addr) (items : List V), xs[i]? = some (V.ref r) ∧ solM y = some items ∧ H r = some (.tup items)
theorem ProgL.mono {H H' : Hp} {xs : List V} {rows : List Str} (p : ProgL H xs rows) (e : Ex H H') : ProgL H' xs rows := ⟨p.1, fun i y h => by
  obtain ⟨r, items, h1, h2, h3⟩ := p.2 i y h
  exact ⟨r, items, h1, h2, e r _ h3⟩⟩
/-- all but e is kept -/
def ExB (e : Addr) (H H' : Hp) : Prop := ∀ b o, b ≠ e → H b = some o → H' b = some o
theorem ProgL.monoB {H H' : Hp} {e : Addr} {kvs : List (Key × V)} {xs : List V} {rows : List Str} (p : ProgL H xs rows) (he : H e = some (.dK kvs)) (x : ExB e H H') : ProgL H' xs rows := ⟨p.1, fun i y h => by
  obtain ⟨r, items, h1, h2, h3⟩ := p.2 i y h
  exact ⟨r, items, h1, h2, x r _ (fun z => by rw [z, he] at h3; cases h3) h3⟩⟩
/-- the rows of a block are right -/
def RowsOk (names : List Str) (rows : List Str) : Prop := rows.length ≤ 30 ∧ (∀ y ∈ rows, LineOk y) ∧ ∀ (i : Nat) (y : Str), rows[i]? = some y → wrongRow y ((rows.length : Int) - 1 - (i : Nat)) names = false
theorem ProgL.right {H : Hp} {xs : List V} {rows names : List Str} (p : ProgL H xs rows) (h : RowsOk names rows) : ∀ i v, xs[i]? = some v → RightSt H names xs.length i v := by
  intro i v hv
  have hi : i < xs.length := (List.getElem?_eq_some_iff.mp hv).1
  have hi2 : i < rows.length := by rw [← p.1]; exact hi
  have hy : rows[i]? = some rows[i] := by simp [hi2]
  obtain ⟨r, items, h1, h2, h3⟩ := p.2 i _ hy
  obtain ⟨wd, ks, rest, rfl, hk, hst, hsb⟩ := sol_good h2 (h.2.1 _ (List.getElem_mem hi2))
  have hw := h.2.2 i _ hy
  unfold wrongRow at hw
  rw [h2] at hw
  have hw2 : wrongB wd ((formK wd).getD []) rest ((rows.length : Int) - 1 - (i : Nat)) names = false := hw
  rw [hk] at hw2
  rw [h1] at hv
  cases hv
  exact ⟨r, wd, ks, rest, rfl, ⟨h3, hst, hsb⟩, by rw [p.1]; exact hw2⟩
def ModsAt (H : Hp) (e : Addr) (ms : List Mo) (tp : Bool) : Prop := H e = some (.dK (kvsM ms)) ∧ ∀ m ∈ ms, ∃ xs : List V, H m.2.1 = some (if tp = true then HO.tup xs else HO.lst xs) ∧ ProgL H xs m.2.2
structure ModsOk (ms : List Mo) : Prop where
  pos : 1 ≤ ms.length
  most : ms.length ≤ 40
  name : ∀ m ∈ ms, nmB m.1 = true ∧ m.1.length ≤ 8
  rows : ∀ m ∈ ms, RowsOk (ms.map (·.1)) m.2.2
  inc : (ms.map (·.1)).Pairwise fun a b => b.cps.toList < a.cps.toList → False
  nd : (ms.map (·.1)).Nodup
def spCheck : Sp := fun vs H Q _ => ∃ (e : Addr) (ms : List Mo), vs = [.ref e] ∧ ModsAt H e ms false ∧ ModsOk ms ∧ ∀ H', Ex H H' → Q .non H'
theorem goes_items {j l : Nat} {e : Addr} {od : Obj} {kvs : List (Key × V)} {K : PySem.W.Frag} (hz : kvs.length < sizeLine) : Goes (Iti e od kvs) (gTup K 2 (gCons (gName j) (gCons (gName l) gNil))) kvs.length (fun H => H e = some (.frz od (.dK kvs))) (fun i σ => (σ.set j ((kvs[i]?).map fun q => kV q.1)).set l ((kvs[i]?).map fun q => q.2)) where
  stop := fun H h => ⟨h, Nat.le_refl _⟩
  go := fun i H hi h => ⟨h, hi⟩
  tgt := fun i σ H v H' R hi h y k => by
    obtain ⟨T, k0, z, e0, e1, hT, e2⟩ := y
    subst e1 e2
    have k1 := k _ (Ex.new (o := .tup [kV k0, z]) hT)
    rw [e0] at k1
    exact ⟨T, [kV k0, z], rfl, SqT.of upd_same, rfl, _, [z], rfl, z, [], rfl, rfl, k1⟩
  len := hz
theorem o_check_library (T : Tx w K mg d) (F : Fd K mg "check_library" s_check_library []) (o_is_name : Ok0 P w K mg base 3 "is_name" ["value"] spName) (o_first_problem : OkN P w K mg base 8 "first_problem" ["value", "is_main", "known"] 1 ["known"] (fun vs zs => vs ++ ([.bl false] ++ zs)) (spFProb K)) :
    Ok0 P w K mg base 9 "check_library" ["value"] spCheck := by
  refine mkOk 8 F sc_check_library (fun _ _ _ _ _ _ us hl => match us, hl with | [_], _ => rfl) (fun vs H Q E h => by obtain ⟨_, _, rfl, _⟩ := h; rfl) fun f cdv A outer s H vs Q E hr h => ?_
  obtain ⟨e, ms, rfl, ⟨he, hm⟩, ho, hQ⟩ := h
  refine ⟨_, PSs.nox (pss_cons (ps_if (PW.pt (pw_or (pt_not (pt_val (pe_callB call_isV (by rfl) T.b_isinstance (by decide +kernel) (pa_cons (pv 0) (pa_cons (pe_bltn (v := .ty "dict") (u := .type "dict") (by rfl) T.b_dict (by decide +kernel) rfl) pa_nil))))) (pw_or1 (pt_not (pt_chain op_le op_le pe_int (pe_callB call_lenD (by rfl) T.b_len (by decide +kernel) (pa_cons (pv 0) pa_nil)) (pe_gi T.c_MOST_MODULES)))))) (pss_one ps_never) pss_nil)
    (pss_cons (ps_set (i := 1) sc_check_library.nd rfl (.inl rfl) (pe_callTy (call_listD rfl) (by rfl) T.b_list (by decide +kernel) (pa_cons (pv 0) pa_nil)))
    (pss_one (ps_lock (ps_for PassesOwn.never rfl (pi_items (pv 0)) (pg_two K (i := 2) (j := 3) sc_check_library.nd rfl rfl (.inl rfl) (.inl rfl) rfl) (pss_cons (ps_set (i := 4) sc_check_library.nd rfl (.inl rfl) (pe_ifExp (pt_val (pe_c o_is_name (hr.mono (by decide)) pass0 (pa_cons (pv 2) pa_nil))) (pe_cN o_first_problem (hr.mono (by decide)) pass0 (pa_cons (pv 3) pa_nil) (pk_cons (pv 1) pk_nil)) (pe_un un_neg pe_int)))
    (pss_one (ps_if (pt_cmpR op_notN (pv 4) pe_non (nomark _)) (pss_one ps_never) pss_nil)))))))), ?_⟩
  try simp only [tLock, iItems, n_check_library, L2.start, cxK, cxW, cxK', cxW', is_ss, is_si, is_ii, is_ib, is_is, is_bs, is_ns, is_ni, is_nt, Bool.not_false, Bool.not_true, tSeq, tIfS, tRet, tRetN, tNext, tNever, tAsg, gName, tVar, tC, tOp, tUn, tCons, tNil, tCB, tCall, tTest, tB, tAnd, tOr, tNot, tAndV, tOrV, tNotV, tIf, tChain, rI0, rI, rU, rEq, rNe, List.map_cons, List.map_nil, List.length_cons, List.length_nil, List.replicate, List.cons_append, List.nil_append, List.append_nil, List.getElem?_cons_zero, List.getElem?_cons_succ, List.set_cons_zero, List.set_cons_succ, Option.some.injEq, exists_eq_left', exists_eq_left, exists_eq_right, V.str.injEq, V.int.injEq, V.bl.injEq, V.ref.injEq, V.ty.injEq, List.cons.injEq, and_true, true_and, exists_and_left, Nat.zero_add, Nat.add_sub_cancel, Nat.sub_self, Nat.succ_sub_succ_eq_sub, Nat.reduceSub, Nat.reduceAdd, Nat.sub_zero, tYes, tSl, tPart, tNoPart, if_true, Bool.false_eq_true, if_false, reduceCtorEq, false_and, exists_false, or_false, false_or, scal, tLc_eq, tFor_eq, iStr, iList, iTup, RZ.iZipA, decide_false, decide_true, tM1, tM0, tDrop, tAug, ipI]
  have hkl : (kvsM ms).length = ms.length := List.length_map _
  have hpos := ho.pos
  have hmost := ho.most
  refine is_dd he ⟨true, rfl, ?_⟩
  rw [if_neg (by decide)]
  refine ⟨kvsM ms, he, ?_⟩
  rw [hkl, if_pos (decide_eq_true (by omega)), if_neg (by simp; omega)]
  refine ⟨kvsM ms, Rd.of he, fun p hp => ?_⟩
  rw [keysM]
  have ep : Ex H (upd H p (.lst ((ms.map (·.1)).map V.str))) := Ex.new hp
  have hpe : e ≠ p := ne_of_none he hp
  refine ⟨e, .dK (kvsM ms), ep e _ he, trivial, fun od => ⟨od, kvsM ms, upd_same, ?_⟩⟩
  obtain ⟨H1, hH1⟩ : ∃ H1, H1 = upd (upd H p (.lst ((ms.map (·.1)).map V.str))) e (.frz od (.dK (kvsM ms))) := ⟨_, rfl⟩
  rw [← hH1]
  have x1 : ExB e H H1 := fun b o hb hbo => by rw [hH1, upd_ne hb]; exact ep b o hbo
  have h1e : H1 e = some (.frz od (.dK (kvsM ms))) := by rw [hH1, upd_same]
  have h1p : H1 p = some (.lst ((ms.map (·.1)).map V.str)) := by rw [hH1, upd_ne hpe.symm, upd_same]
  obtain ⟨Pv, hPv⟩ : ∃ P0 : Nat → L2.St → Hp → Prop, ∀ i σ' H', P0 i σ' H' ↔ ((∃ u v z, σ' = [some (V.ref e), some (V.ref p), u, v, z]) ∧ Ex H1 H') := ⟨_, fun _ _ _ => Iff.rfl⟩
  refine forP (goes_items (small (by omega))) Pv ((hPv _ _ _).mpr ⟨⟨_, _, _, rfl⟩, Ex.refl _⟩) (fun i σ' H' p => ((hPv _ _ _).mp p).2 e _ h1e) ?_ ?_
  · intro i σ' H' H3 hi hp5 e3
    obtain ⟨⟨u, v, z, rfl⟩, e4⟩ := (hPv _ _ _).mp hp5
    rw [hkl] at hi
    have hii : (kvsM ms)[i]? = some (Sum.inr ms[i].1, V.ref ms[i].2.1) := by unfold kvsM; simp [hi]
    rw [hii]
    have hmem : ms[i] ∈ ms := List.getElem_mem hi
    try simp only [Option.map_some, kV, tCallN, is_ss, is_si, is_ii, is_ib, is_is, is_bs, is_ns, is_ni, is_nt, Bool.not_false, Bool.not_true, tSeq, tIfS, tRet, tRetN, tNext, tNever, tAsg, gName, tVar, tC, tOp, tUn, tCons, tNil, tCB, tCall, tTest, tB, tAnd, tOr, tNot, tAndV, tOrV, tNotV, tIf, tChain, rI0, rI, rU, rEq, rNe, List.map_cons, List.map_nil, List.length_cons, List.length_nil, List.replicate, List.cons_append, List.nil_append, List.append_nil, List.getElem?_cons_zero, List.getElem?_cons_succ, List.set_cons_zero, List.set_cons_succ, Option.some.injEq, exists_eq_left', exists_eq_left, exists_eq_right, V.str.injEq, V.int.injEq, V.bl.injEq, V.ref.injEq, V.ty.injEq, List.cons.injEq, and_true, true_and, exists_and_left, Nat.zero_add, Nat.add_sub_cancel, Nat.sub_self, Nat.succ_sub_succ_eq_sub, Nat.reduceSub, Nat.reduceAdd, Nat.sub_zero, tYes, tSl, tPart, tNoPart, if_true, Bool.false_eq_true, if_false, reduceCtorEq, false_and, exists_false, or_false, false_or, scal, tLc_eq, tFor_eq, iStr, iList, iTup, RZ.iZipA, decide_false, decide_true, tM1, tM0, tDrop, tAug, ipI]
    obtain ⟨hn, hnl⟩ := ho.name _ hmem
    refine ⟨ms[i].1, rfl, by omega, fun H4 e5 => ?_⟩
    rw [hn]
    refine ⟨true, rfl, ?_⟩
    rw [if_pos rfl]
    obtain ⟨xs, hxs, hpl⟩ := hm _ hmem
    have hr := ho.rows _ hmem
    have e6 := (e4.trans e3).trans e5
    have hxe : ms[i].2.1 ≠ e := fun z => by rw [z, he] at hxs; cases hxs
    have hpl4 : ProgL H4 xs ms[i].2.2 := (hpl.monoB he x1).mono e6
    refine ⟨ms[i].2.1, p, xs, ms.map (·.1), rfl, e6 _ _ (x1 _ _ hxe hxs), SqL.of (e6 _ _ h1p), by rw [hpl.1]; exact hr.1, hpl4.right hr, fun H5 e7 => ?_⟩
    show (if (!decide (V.non = V.non)) = true then False else _)
    rw [if_neg (by simp)]
    exact (hPv _ _ _).mpr ⟨⟨_, _, _, rfl⟩, e6.trans e7⟩
  · intro σ' H' hp5
    obtain ⟨⟨u, v, z, rfl⟩, e4⟩ := (hPv _ _ _).mp hp5
    refine ⟨e4 e _ h1e, hQ _ fun b o hbo => ?_⟩
    by_cases hb : b = e
    · subst hb
      rw [upd_same, ← he, hbo]
    · rw [upd_ne hb]
      exact e4 b o (x1 b o hb hbo)

end K17

-- text K17P9
set_option maxHeartbeats 8000000
namespace K17
open PySem PySem.Spec PyProof.Rows L2 Evl
variable {P : Program} {w : World} {K : PySem.W.Frag} {mg : Str → Option Value} {base : Heap} {d : Ad}
/-! ## sorted names stay, dict comprehensions -/
theorem perm_eq {α : Type} {R : α → α → Prop} (anti : ∀ a b, R a b → R b a → a = b) : ∀ {l1 l2 : List α}, l1.Perm l2 → l1.Pairwise R → l2.Pairwise R → l1 = l2
  | [], l2, p, _, _ => (List.nil_perm.mp p).symm
  | a :: r, [], p, _, _ => by have := p.length_eq; simp at this
  | a :: r, b :: r2, p, h1, h2 => by
    have ha : a ∈ b :: r2 := p.mem_iff.mp List.mem_cons_self
    have hb : b ∈ a :: r := p.mem_iff.mpr List.mem_cons_self
    have e : a = b := by
      rcases List.mem_cons.mp ha with z | z
      · exact z
      · rcases List.mem_cons.mp hb with y | y
        · exact y.symm
        · exact anti a b (List.rel_of_pairwise_cons h1 y) (List.rel_of_pairwise_cons h2 z)
    subst e
    rw [perm_eq anti ((List.perm_cons a).mp p) (List.pairwise_cons.mp h1).2 (List.pairwise_cons.mp h2).2]
def leT (a b : Str) : Prop := b.cps.toList < a.cps.toList → False
theorem leT_anti (a b : Str) (h1 : leT a b) (h2 : leT b a) : a = b := by
  refine TL.ext_tl ?_
  exact List.le_antisymm (show a.cps.toList ≤ b.cps.toList from fun z => h1 z) (show b.cps.toList ≤ a.cps.toList from fun z => h2 z)
theorem leT_trans {a b c : Str} (h1 : leT a b) (h2 : leT b c) : leT a c := by
  have h : a.cps.toList ≤ c.cps.toList := List.le_trans (show a.cps.toList ≤ b.cps.toList from fun z => h1 z) (show b.cps.toList ≤ c.cps.toList from fun z => h2 z)
  exact fun z => h z
theorem rising_pw : ∀ {l : List Str} {p : Str}, risingS p l = true → (p :: l).Pairwise leT
  | [], p, _ => List.pairwise_singleton _ _
  | x :: r, p, h => by
    have h1 : (!ltCps x.cps.toList p.cps.toList && risingS x r) = true := h
    obtain ⟨h2, h3⟩ := Bool.and_eq_true_iff.mp h1
    have ih := rising_pw h3
    have hpx : leT p x := by
      intro z
      rw [ltCps_eq] at h2
      simp at h2
      exact h2 z
    refine List.pairwise_cons.mpr ⟨fun y hy => ?_, ih⟩
    rcases List.mem_cons.mp hy with e | e
    · rw [e]; exact hpx
    · exact leT_trans hpx (List.rel_of_pairwise_cons ih e)
theorem sorted_pw {l : List Str} (h : sortedS l = true) : l.Pairwise leT := by
  cases l with
  | nil => exact .nil
  | cons x r => exact rising_pw h
theorem sorted_same {ys ks : List Str} (p : ys.Perm ks) (h : sortedS ys = true) (hk : ks.Pairwise leT) : ys = ks := perm_eq leT_anti p (sorted_pw h) hk
def DcW (J : It) (g : TG) (tt : TT) (tk tv : TE) (vs : List Nat) (σ : L2.St) (H1 : Hp) (Q : VK) : Prop := ∀ D, H1 D = none → ∃ W : Nat → Nat → Hp → Prop, (∃ m, W 0 m (upd H1 D (.dK []))) ∧ ∀ i m H, W i m H →
  (J.stop i H ∧ Q (.ref D) H) ∨ (J.go i H ∧ ∃ Nx : Hp → Prop, (∀ H', Nx H' → ∃ m', m' < m ∧ W (i + 1) m' H') ∧ ∀ x H', J.yld i H x H' → g x (wipe σ vs) H' fun σ2 H2 => wipe σ2 vs = wipe σ vs ∧ tt σ2 H2 fun b H3 =>
    if b = true then tk σ2 H3 fun y H4 => tv σ2 H4 fun z H5 => ∃ kvs k, y = kV k ∧ H5 D = some (.dK kvs) ∧ kvs.length < sizeLine ∧ Nx (upd H5 D (.dK (putK kvs k z))) else Nx H3)
theorem tDc_eq {wi : TI} {g : TG} {tt : TT} {tk tv : TE} {vs : List Nat} {σ : L2.St} {H : Hp} {Q : VK} : tDc wi g tt tk tv vs σ H Q = wi σ H (fun J H1 => DcW J g tt tk tv vs σ H1 Q) := rfl
theorem dcP {J : It} {g : TG} {n : Nat} {S : Hp → Prop} {put : Nat → L2.St → L2.St} {tt : TT} {tk tv : TE} {vs : List Nat} {σ : L2.St} {H : Hp} {Q : VK} (G : Goes J g n S put) (hw : ∀ i, i < n → wipe (put i (wipe σ vs)) vs = wipe σ vs) (Pv : Addr → Nat → Hp → Prop)
    (h0 : ∀ D, H D = none → Pv D 0 (upd H D (.dK []))) (hS : ∀ D i H', Pv D i H' → S H') (ext : ∀ D i H1 H2, Ex H1 H2 → Pv D i H1 → Pv D i H2)
    (step : ∀ D i H', i < n → Pv D i H' → tt (put i (wipe σ vs)) H' fun b H3 => if b = true then tk (put i (wipe σ vs)) H3 fun y H4 => tv (put i (wipe σ vs)) H4 fun z H5 => ∃ kvs k, y = kV k ∧ H5 D = some (.dK kvs) ∧ kvs.length < sizeLine ∧ Pv D (i + 1) (upd H5 D (.dK (putK kvs k z))) else Pv D (i + 1) H3)
    (k : ∀ D H2, Pv D n H2 → Q (.ref D) H2) : DcW J g tt tk tv vs σ H Q := by
  intro Dl hD
  refine ⟨fun i m H' => m = n - i ∧ i ≤ n ∧ Pv Dl i H', ⟨n, by simp, Nat.zero_le _, h0 Dl hD⟩, ?_⟩
  rintro i m H' ⟨rfl, hi, hp⟩
  have hs := hS _ _ _ hp
  by_cases hlt : i < n
  · refine .inr ⟨G.go i H' hlt hs, Pv Dl (i + 1), fun H2 h2 => ⟨n - (i + 1), by omega, rfl, hlt, h2⟩, fun x H2 y => ?_⟩
    exact G.tgt i _ H' x H2 _ hlt hs y fun H3 e3 => ⟨hw i hlt, step Dl i H3 hlt (ext _ _ _ _ e3 hp)⟩
  · have e : i = n := by omega
    subst e
    exact .inl ⟨G.stop H' hs, k Dl H' hp⟩
theorem valM {ms : List Mo} (nd : (ms.map (·.1)).Nodup) {m : Mo} (h : m ∈ ms) : valV (kvsM ms) (Sum.inr m.1) = some (.ref m.2.1) := by
  induction ms with
  | nil => cases h
  | cons a r ih =>
    have nd2 := List.nodup_cons.mp nd
    unfold valV kvsM
    rw [List.map_cons, List.find?_cons]
    by_cases hk : a.1 = m.1
    · have e : a = m := by
        rcases List.mem_cons.mp h with z | z
        · exact z.symm
        · exact absurd (List.mem_map.mpr ⟨m, z, hk.symm⟩) nd2.1
      subst e
      simp
    · have hm : m ∈ r := by
        rcases List.mem_cons.mp h with z | z
        · rw [z] at hk; exact absurd rfl hk
        · exact z
      have e : (decide ((Sum.inr a.1 : Key) = Sum.inr m.1)) = false := decide_eq_false fun z => hk (Sum.inr.inj z)
      simp only [e]
      exact ih nd2.2 hm
theorem getM {H : Hp} {e : Addr} {ms : List Mo} {m : Mo} (he : H e = some (.dK (kvsM ms))) (nd : (ms.map (·.1)).Nodup) (h : m ∈ ms) : DGet H e (.str m.1) (some (.ref m.2.1)) := by
  have q := DGet.k (k := Sum.inr m.1) he
  rw [valM nd h] at q
  exact q
theorem putM {ms : List Mo} {x : Str} {a : Addr} {rows : List Str} (h : x ∉ ms.map (·.1)) : putK (kvsM ms) (Sum.inr x) (.ref a) = kvsM (ms ++ [(x, a, rows)]) := by
  unfold putK
  rw [if_neg]
  · unfold kvsM
    rw [List.map_append]
    rfl
  · intro z
    rw [List.any_eq_true] at z
    obtain ⟨q, hq, e⟩ := z
    obtain ⟨m, hm, e2⟩ := List.mem_map.mp hq
    rw [← e2] at e
    have e3 : m.1 = x := Sum.inr.inj (of_decide_eq_true e)
    exact h (List.mem_map.mpr ⟨m, hm, e3⟩)
/-! ## Library: __init__, modules, has_module, initializer -/
/-- what the head tells of the class -/
structure Tlb (K : PySem.W.Frag) (mg : Str → Option Value) (d : Ad) : Prop where
  c_lb : mg "Library" = some (.ref d.lb)
  lib : Cls K d.lb
  na : NoAttr K d.lb "own_programs"
def LibAt (H : Hp) (lb a : Addr) (ms : List Mo) : Prop := ∃ dx e, H a = some (.ins lb dx [(Str.ofString "own_programs", .ref e)]) ∧ ModsAt H e ms true
def spLInit (lb : Addr) : Sp := fun vs H Q _ => ∃ (x dx e : Addr) (ms : List Mo), vs = [.ref x, .ref e] ∧ H x = some (.ins lb dx []) ∧ ModsAt H e ms false ∧ ModsOk ms ∧
  ∀ H' ms', ExB x H H' → ms'.map (fun m => (m.1, m.2.2)) = ms.map (fun m => (m.1, m.2.2)) → LibAt H' lb x ms' → Q .non H'
theorem o_Library_init (T : Tx w K mg d) (L : Tlb K mg d) (o_check_library : Ok0 P w K mg base 9 "check_library" ["value"] spCheck) {f : Addr} {fd : FuncData} (F : FunD K "__init__" "Library.__init__" (defArgs s_Library_init) (defBody s_Library_init) (defScope s_Library_init) [] [] f fd) :
    FnOk P w K mg base CX0 10 f fd ["self", "modules"] (spLInit d.lb) := by
  refine F.ok (k := 9) sc_Library_init (fun vs H Q E h => by obtain ⟨_, _, _, _, rfl, _⟩ := h; rfl) fun cdv A outer s H vs Q E hr h => ?_
  obtain ⟨x, dx, e, ms, rfl, hx, ⟨he, hm⟩, ho, hQ⟩ := h
  refine ⟨_, PSs.nox (pss_cons (ps_expr (pe_c o_check_library (hr.mono (by decide)) pass0 (pa_cons (pv 1) pa_nil)))
    (pss_one (ps_fld (pv 0) (pe_dc (own := [("module", 2)]) rfl sc_Library_init.nd (pi_list (pe_callB (call_sortedD rfl) (by rfl) T.b_sorted (by decide +kernel) (pa_cons (pv 1) pa_nil))) (blkOk_by (own := [("module", 2)]) (N := n_Library_init) (sc := defScope s_Library_init) (by decide +kernel)) (fun _ _ _ _ _ => (pg_name (i := 2) sc_Library_init.nd rfl (Or.inl rfl))) (fun _ _ _ _ _ => pts_nil) (fun _ _ _ _ _ => (pv 2)) (fun _ _ _ _ _ => (pe_callTy (call_tuple_ofB K) (by rfl) T.b_tuple (by decide +kernel) (pa_cons (pe_dget (hu_of hr) (pv 1) (pv 2) (fun _ _ => rfl)) pa_nil)))) rfl))), ?_⟩
  try simp only [sFld, tDGet, tDc_eq, n_Library_init, L2.start, cxK, cxW, cxK', cxW', is_ss, is_si, is_ii, is_ib, is_is, is_bs, is_ns, is_ni, is_nt, Bool.not_false, Bool.not_true, tSeq, tIfS, tRet, tRetN, tNext, tNever, tAsg, gName, tVar, tC, tOp, tUn, tCons, tNil, tCB, tCall, tTest, tB, tAnd, tOr, tNot, tAndV, tOrV, tNotV, tIf, tChain, rI0, rI, rU, rEq, rNe, List.map_cons, List.map_nil, List.length_cons, List.length_nil, List.replicate, List.cons_append, List.nil_append, List.append_nil, List.getElem?_cons_zero, List.getElem?_cons_succ, List.set_cons_zero, List.set_cons_succ, Option.some.injEq, exists_eq_left', exists_eq_left, exists_eq_right, V.str.injEq, V.int.injEq, V.bl.injEq, V.ref.injEq, V.ty.injEq, List.cons.injEq, and_true, true_and, exists_and_left, Nat.zero_add, Nat.add_sub_cancel, Nat.sub_self, Nat.succ_sub_succ_eq_sub, Nat.reduceSub, Nat.reduceAdd, Nat.sub_zero, tYes, tSl, tPart, tNoPart, if_true, Bool.false_eq_true, if_false, reduceCtorEq, false_and, exists_false, or_false, false_or, scal, tLc_eq, tFor_eq, iStr, iList, iTup, RZ.iZipA, decide_false, decide_true, tM1, tM0, tDrop, tAug, ipI]
  refine ⟨e, ms, rfl, ⟨he, hm⟩, ho, fun H1 e1 => ?_⟩
  have he1 := e1 e _ he
  refine ⟨kvsM ms, Rd.of he1, ms.map (·.1), by unfold kvsM; rw [List.map_map, List.map_map]; rfl, by rw [List.length_map]; have := ho.most; omega, fun ys p hperm hsort hp => ?_⟩
  have hys := sorted_same hperm hsort ho.inc
  subst hys
  have e2 : Ex H1 (upd H1 p (.lst ((ms.map (·.1)).map V.str))) := Ex.new hp
  obtain ⟨H2, hH2⟩ : ∃ H2, H2 = upd H1 p (.lst ((ms.map (·.1)).map V.str)) := ⟨_, rfl⟩
  rw [← hH2] at e2 ⊢
  have h2p : H2 p = some (.lst ((ms.map (·.1)).map V.str)) := by rw [hH2, upd_same]
  refine ⟨⟨_, SqL.of h2p⟩, ?_⟩
  have hmlen : ((ms.map (·.1)).map V.str).length = ms.length := by rw [List.length_map, List.length_map]
  refine dcP (goes_list (xs := (ms.map (·.1)).map V.str) (small (by rw [hmlen]; have := ho.most; omega))) (fun _ _ => rfl) (fun D i H' => Ex H2 H' ∧ H2 D = none ∧ ∃ ts : List Mo, ts.map (fun m => (m.1, m.2.2)) = (ms.take i).map (fun m => (m.1, m.2.2)) ∧ ModsAt H' D ts true)
    (fun D hD => ⟨Ex.new hD, hD, [], rfl, upd_same, fun m hm => by cases hm⟩) (fun D i H' p => ex_l p.1 (SqL.of h2p))
    (fun D i H3 H4 e p => ⟨p.1.trans e, p.2.1, let ⟨ts, h1, h2, h3⟩ := p.2.2; ⟨ts, h1, e D _ h2, fun m hm => let ⟨xs, q1, q2⟩ := h3 m hm; ⟨xs, e _ _ q1, q2.mono e⟩⟩⟩) ?_ ?_
  · rintro D i H' hi ⟨e3, hD0, ts, hts, hD, htm⟩
    rw [hmlen] at hi
    have hii : ((ms.map (·.1)).map V.str)[i]? = some (V.str ms[i].1) := by simp [hi]
    have hmem : ms[i] ∈ ms := List.getElem_mem hi
    rw [hii]
    try simp only [wipe, tDGet, is_ss, is_si, is_ii, is_ib, is_is, is_bs, is_ns, is_ni, is_nt, Bool.not_false, Bool.not_true, tSeq, tIfS, tRet, tRetN, tNext, tNever, tAsg, gName, tVar, tC, tOp, tUn, tCons, tNil, tCB, tCall, tTest, tB, tAnd, tOr, tNot, tAndV, tOrV, tNotV, tIf, tChain, rI0, rI, rU, rEq, rNe, List.map_cons, List.map_nil, List.length_cons, List.length_nil, List.replicate, List.cons_append, List.nil_append, List.append_nil, List.getElem?_cons_zero, List.getElem?_cons_succ, List.set_cons_zero, List.set_cons_succ, Option.some.injEq, exists_eq_left', exists_eq_left, exists_eq_right, V.str.injEq, V.int.injEq, V.bl.injEq, V.ref.injEq, V.ty.injEq, List.cons.injEq, and_true, true_and, exists_and_left, Nat.zero_add, Nat.add_sub_cancel, Nat.sub_self, Nat.succ_sub_succ_eq_sub, Nat.reduceSub, Nat.reduceAdd, Nat.sub_zero, tYes, tSl, tPart, tNoPart, if_true, Bool.false_eq_true, if_false, reduceCtorEq, false_and, exists_false, or_false, false_or, scal, tLc_eq, tFor_eq, iStr, iList, iTup, RZ.iZipA, decide_false, decide_true, tM1, tM0, tDrop, tAug, ipI]
    have he3 := (e2.trans e3) e _ he1
    obtain ⟨xs, hxs, hpl⟩ := hm _ hmem
    have hxs3 := ((e1.trans e2).trans e3) _ _ hxs
    refine ⟨_, getM he3 ho.nd hmem, ms[i].2.1, rfl, xs, .inl ⟨SqL.of hxs3, fun l hl => ?_⟩⟩
    have e4 : Ex H' (upd H' l (.tup xs)) := Ex.new hl
    have htn : ts.map (·.1) = (ms.take i).map (·.1) := by
      have := congrArg (List.map Prod.fst) hts
      rw [List.map_map, List.map_map] at this
      exact this
    have hnot : ms[i].1 ∉ ts.map (·.1) := by
      rw [htn]
      intro z
      have hnd := ho.nd
      have hsplit : ms.map (·.1) = (ms.take i).map (·.1) ++ (ms[i].1 :: (ms.drop (i + 1)).map (·.1)) := by
        conv => lhs; rw [← List.take_append_drop i ms, List.drop_eq_getElem_cons hi, List.map_append, List.map_cons]
      rw [hsplit] at hnd
      exact (List.nodup_append.mp hnd).2.2 _ z _ List.mem_cons_self rfl
    have hlen : (kvsM ts).length < sizeLine := by
      have := congrArg List.length hts
      rw [List.length_map, List.length_map, List.length_take] at this
      refine small ?_
      unfold kvsM
      rw [List.length_map]
      have := ho.most
      omega
    refine ⟨kvsM ts, Sum.inr ms[i].1, rfl, e4 D _ hD, hlen, Ex.mut (e3.trans e4) hD0, hD0, ts ++ [(ms[i].1, l, ms[i].2.2)], ?_, ?_, ?_⟩
    · rw [List.map_append, hts, List.take_add_one, List.map_append, List.getElem?_eq_getElem hi]
      rfl
    · rw [upd_same, putM hnot]
    · have hmono : ∀ (b : Addr) (ys : List V), upd H' l (.tup xs) b = some (.tup ys) → upd (upd H' l (.tup xs)) D (.dK (putK (kvsM ts) (Sum.inr ms[i].1) (.ref l))) b = some (.tup ys) := by
        intro b ys hb
        have : b ≠ D := fun z => by rw [z, e4 D _ hD] at hb; cases hb
        rw [upd_ne this]
        exact hb
      have hprog : ∀ (ys : List V) (rows : List Str), ProgL (upd H' l (.tup xs)) ys rows → ProgL (upd (upd H' l (.tup xs)) D (.dK (putK (kvsM ts) (Sum.inr ms[i].1) (.ref l)))) ys rows := fun ys rows pr => ⟨pr.1, fun i2 y hy => by
        obtain ⟨r, items, q1, q2, q3⟩ := pr.2 i2 y hy
        exact ⟨r, items, q1, q2, hmono _ _ q3⟩⟩
      intro m hmm
      rcases List.mem_append.mp hmm with z | z
      · obtain ⟨ys, q1, q2⟩ := htm m z
        exact ⟨ys, hmono _ _ (e4 _ _ q1), hprog _ _ (q2.mono e4)⟩
      · rw [List.mem_singleton.mp z]
        exact ⟨xs, hmono _ _ upd_same, hprog _ _ (hpl.mono (((e1.trans e2).trans e3).trans e4))⟩
  · rintro D H3 ⟨e3, hD0, ts, hts, hD, htm⟩
    rw [hmlen, List.take_length] at hts
    have hx3 := ((e1.trans e2).trans e3) x _ hx
    refine ⟨d.lb, dx, [], hx3, L.lib, L.na, by decide, ?_⟩
    refine hQ _ ts (fun b o hb hbo => ?_) hts ⟨dx, D, by rw [upd_same]; rfl, ?_, ?_⟩
    · rw [upd_ne hb]
      exact ((e1.trans e2).trans e3) b o hbo
    · rw [upd_ne (ne_of hD hx3 (by intro z; cases z)), hD]
    · have hmono : ∀ (b : Addr) (ys : List V), H3 b = some (.tup ys) → upd H3 x (.ins d.lb dx (putF (Str.ofString "own_programs") (.ref D) [])) b = some (.tup ys) := by
        intro b ys hb
        have : b ≠ x := fun z => by rw [z, hx3] at hb; cases hb
        rw [upd_ne this]
        exact hb
      intro m hmm
      obtain ⟨ys, q1, q2⟩ := htm m hmm
      exact ⟨ys, hmono _ _ q1, q2.1, fun i2 y hy => by
        obtain ⟨r, items, w1, w2, w3⟩ := q2.2 i2 y hy
        exact ⟨r, items, w1, w2, hmono _ _ w3⟩⟩

end K17

-- text K17P10
set_option maxHeartbeats 8000000
namespace K17
open PySem PySem.Spec PyProof.Rows L2 Evl
variable {P : Program} {w : World} {K : PySem.W.Frag} {mg : Str → Option Value} {base : Heap} {d : Ad}
/-! ## the methods of Library -/
def OkM (P : Program) (w : World) (K : PySem.W.Frag) (mg : Str → Option Value) (base : Heap) (k : Nat) (C : Addr) (m : Str) (ps : List Str) (sp : Sp) : Prop :=
  ∃ (f : Addr) (fd : FuncData), Meth K C m f ∧ Binds K fd ps [] ∧ FnOk P w K mg base CX0 k f fd ps sp
theorem pe_mtd {X : Cx} {C : Addr} {m : Str} {k : Nat} {ps : List Str} {sp : Sp} {E : XK} {o e : Expr} {es : List Expr} {ta : TE} {t : TA} {pos apos : Pos} {pl : Sem Bool} (he : PE X o ta) (c : Cls X.K C) (F : OkM X.prog X.w X.K X.mg X.base k C m ps sp) (hr : Room k X.A) (hx : Passes CX0 X E) (ha : PA X (e :: es) t)
    (hst : starEach (e :: es) X.env = (false, eval e X.env) :: starEach es X.env := by rfl) (hpl : (backTo pos (starEach es X.env)).any (·.1) = false := by rfl)
    (ht : eval (.Call (.Attribute o m apos) (e :: es) [] pos) X.env = (do
      let ov ← eval o X.env
      standAt apos.atName
      let (f, first) ← holding [ov] (getMethod ov m pl)
      callWith pos f first (backTo pos (starEach (e :: es) X.env)) (backToKw pos (keywordEach [] X.env))) := by rfl) :
    PE X (.Call (.Attribute o m apos) (e :: es) [] pos) (tMeth C m sp [] E ta t) := by
  obtain ⟨f, fd, hm, hb, F⟩ := F
  exact pe_meth he c hm F hr hb .nil hx ha hst hpl ht
theorem pe_mtd0 {X : Cx} {C : Addr} {m : Str} {k : Nat} {ps : List Str} {sp : Sp} {E : XK} {o : Expr} {ta : TE} {pos apos : Pos} {pl : Sem Bool} (he : PE X o ta) (c : Cls X.K C) (F : OkM X.prog X.w X.K X.mg X.base k C m ps sp) (hr : Room k X.A) (hx : Passes CX0 X E)
    (ht : eval (.Call (.Attribute o m apos) [] [] pos) X.env = (do
      let ov ← eval o X.env
      standAt apos.atName
      let (f, first) ← holding [ov] (getMethod ov m pl)
      callWith pos f first (backTo pos (starEach [] X.env)) (backToKw pos (keywordEach [] X.env))) := by rfl) :
    PE X (.Call (.Attribute o m apos) [] [] pos) (tMeth C m sp [] E ta tNil) := by
  obtain ⟨f, fd, hm, hb, F⟩ := F
  exact pe_meth0 he c hm F hr hb .nil hx ht
def FldR (K : PySem.W.Frag) (f : Str) (x : V) (H1 : Hp) (Q : VK) : Prop := ∃ (a C dx : Addr) (fs : List (Str × V)) (v : V), x = .ref a ∧ H1 a = some (.ins C dx fs) ∧ Cls K C ∧ NoAttr K C f ∧ fs.lookup f = some v ∧ Q v H1
theorem tFld_eq {K : PySem.W.Frag} {ta : TE} {f : Str} {σ : L2.St} {H : Hp} {Q : VK} : tFld K ta f σ H Q = ta σ H (fun x H1 => FldR K f x H1 Q) := rfl
theorem fldR {K : PySem.W.Frag} {f : Str} {a C dx : Addr} {fs : List (Str × V)} {v : V} {H1 : Hp} {Q : VK} (h : H1 a = some (.ins C dx fs)) (c : Cls K C) (n : NoAttr K C f) (l : fs.lookup f = some v) (q : Q v H1) : FldR K f (.ref a) H1 Q := ⟨a, C, dx, fs, v, rfl, h, c, n, l, q⟩
def MethR (C : Addr) (m : Str) (σ : L2.St) (t : TA) (x : V) (H1 : Hp) (R : List V → Hp → Prop) : Prop := ∃ (a dx : Addr) (fs : List (Str × V)), x = .ref a ∧ H1 a = some (.ins C dx fs) ∧ fs.lookup m = none ∧ t σ H1 R
theorem tMeth_eq {C : Addr} {m : Str} {sp : Sp} {E : XK} {ta : TE} {t : TA} {σ : L2.St} {H : Hp} {Q : VK} : tMeth C m sp [] E ta t σ H Q = ta σ H (fun x H1 => MethR C m σ t x H1 (fun vs H2 => sp (x :: (vs ++ [])) H2 Q E)) := rfl
theorem methR {C : Addr} {m : Str} {σ : L2.St} {t : TA} {a dx : Addr} {fs : List (Str × V)} {H1 : Hp} {R : List V → Hp → Prop} (h : H1 a = some (.ins C dx fs)) (l : fs.lookup m = none) (q : t σ H1 R) : MethR C m σ t (.ref a) H1 R := ⟨a, dx, fs, rfl, h, l, q⟩
def GetR (y : V) (x : V) (H2 : Hp) (Q : VK) : Prop := ∃ (a : Addr) (v : V), x = .ref a ∧ DGet H2 a y (some v) ∧ Q v H2
theorem tDGet_eq {td ty : TE} {σ : L2.St} {H : Hp} {Q : VK} : tDGet td ty σ H Q = td σ H (fun x H1 => ty σ H1 (fun y H2 => GetR y x H2 Q)) := rfl
theorem getR {y v : V} {a : Addr} {H2 : Hp} {Q : VK} (h : DGet H2 a y (some v)) (q : Q v H2) : GetR y (.ref a) H2 Q := ⟨a, v, rfl, h, q⟩
def InR (y : V) (x : V) (H2 : Hp) (Q : VK) : Prop := ∃ (a : Addr) (o : Option V), x = .ref a ∧ DGet H2 a y o ∧ Q (.bl o.isSome) H2
theorem tDIn_eq {td ty : TE} {σ : L2.St} {H : Hp} {Q : VK} : tDIn ty td σ H Q = ty σ H (fun y H1 => td σ H1 (fun x H2 => InR y x H2 Q)) := rfl
theorem inR {y : V} {o : Option V} {a : Addr} {H2 : Hp} {Q : VK} (h : DGet H2 a y o) (q : Q (.bl o.isSome) H2) : InR y (.ref a) H2 Q := ⟨a, o, rfl, h, q⟩
theorem lk0 {f g : Str} {v : V} (h : (g == f) = false) : List.lookup g [(f, v)] = none := by simp [List.lookup, h]
theorem lk1 (f : Str) (v : V) : List.lookup f [(f, v)] = some v := by simp [List.lookup]
def Fm (K : PySem.W.Frag) (lb : Addr) (m q : Str) (st : Stmt) : Prop := ∃ (f : Addr) (fd : FuncData), Meth K lb m f ∧ FunD K m q (defArgs st) (defBody st) (defScope st) [] [] f fd
def spLMods (lb : Addr) : Sp := fun vs H Q _ => ∃ (a : Addr) (ms : List Mo), vs = [.ref a] ∧ LibAt H lb a ms ∧ ∀ p H', H p = none → Ex H H' → H' p = some (.lst ((ms.map (·.1)).map V.str)) → Q (.ref p) H'
theorem o_Library_modules (T : Tx w K mg d) (L : Tlb K mg d) (F : Fm K d.lb "modules" "Library.modules" s_Library_modules) : OkM P w K mg base 3 d.lb "modules" ["self"] (spLMods d.lb) := by
  obtain ⟨f, fd, hm, F⟩ := F
  refine ⟨f, fd, hm, F.bindsN (fun _ _ _ _ _ _ us hl => match us, hl with | [_], _ => rfl), ?_⟩
  refine F.ok (k := 2) sc_Library_modules (fun vs H Q E h => by obtain ⟨_, _, rfl, _⟩ := h; rfl) fun cdv A outer s H vs Q E hr h => ?_
  obtain ⟨a, ms, rfl, ⟨dx, e, ha, he, hms⟩, hQ⟩ := h
  refine ⟨_, PSs.nox (pss_one (ps_ret (pe_callTy (call_listD rfl) (by rfl) T.b_list (by decide +kernel) (pa_cons (pe_fld (pv 0) rfl) pa_nil)))), ?_⟩
  try simp only [tFld_eq, n_Library_modules, L2.start, cxK, cxW, cxK', cxW', is_ss, is_si, is_ii, is_ib, is_is, is_bs, is_ns, is_ni, is_nt, Bool.not_false, Bool.not_true, tSeq, tIfS, tRet, tRetN, tNext, tNever, tAsg, gName, tVar, tC, tOp, tUn, tCons, tNil, tCB, tCall, tTest, tB, tAnd, tOr, tNot, tAndV, tOrV, tNotV, tIf, tChain, rI0, rI, rU, rEq, rNe, List.map_cons, List.map_nil, List.length_cons, List.length_nil, List.replicate, List.cons_append, List.nil_append, List.append_nil, List.getElem?_cons_zero, List.getElem?_cons_succ, List.set_cons_zero, List.set_cons_succ, Option.some.injEq, exists_eq_left', exists_eq_left, exists_eq_right, V.str.injEq, V.int.injEq, V.bl.injEq, V.ref.injEq, V.ty.injEq, List.cons.injEq, and_true, true_and, exists_and_left, Nat.zero_add, Nat.add_sub_cancel, Nat.sub_self, Nat.succ_sub_succ_eq_sub, Nat.reduceSub, Nat.reduceAdd, Nat.sub_zero, tYes, tSl, tPart, tNoPart, if_true, Bool.false_eq_true, if_false, reduceCtorEq, false_and, exists_false, or_false, false_or, scal, tLc_eq, tFor_eq, iStr, iList, iTup, RZ.iZipA, decide_false, decide_true, tM1, tM0, tDrop, tAug, ipI]
  refine fldR ha L.lib L.na (lk1 _ _) ?_
  try simp only [is_ss, is_si, is_ii, is_ib, is_is, is_bs, is_ns, is_ni, is_nt, Bool.not_false, Bool.not_true, tSeq, tIfS, tRet, tRetN, tNext, tNever, tAsg, gName, tVar, tC, tOp, tUn, tCons, tNil, tCB, tCall, tTest, tB, tAnd, tOr, tNot, tAndV, tOrV, tNotV, tIf, tChain, rI0, rI, rU, rEq, rNe, List.map_cons, List.map_nil, List.length_cons, List.length_nil, List.replicate, List.cons_append, List.nil_append, List.append_nil, List.getElem?_cons_zero, List.getElem?_cons_succ, List.set_cons_zero, List.set_cons_succ, Option.some.injEq, exists_eq_left', exists_eq_left, exists_eq_right, V.str.injEq, V.int.injEq, V.bl.injEq, V.ref.injEq, V.ty.injEq, List.cons.injEq, and_true, true_and, exists_and_left, Nat.zero_add, Nat.add_sub_cancel, Nat.sub_self, Nat.succ_sub_succ_eq_sub, Nat.reduceSub, Nat.reduceAdd, Nat.sub_zero, tYes, tSl, tPart, tNoPart, if_true, Bool.false_eq_true, if_false, reduceCtorEq, false_and, exists_false, or_false, false_or, scal, tLc_eq, tFor_eq, iStr, iList, iTup, RZ.iZipA, decide_false, decide_true, tM1, tM0, tDrop, tAug, ipI]
  refine ⟨kvsM ms, Rd.of he, fun p hp => hQ p _ hp (Ex.new hp) ?_⟩
  rw [upd_same, keysM]
def spLHas (lb : Addr) : Sp := fun vs H Q _ => ∃ (a : Addr) (ms : List Mo) (m : Mo), vs = [.ref a, .str m.1] ∧ LibAt H lb a ms ∧ m ∈ ms ∧ (ms.map (·.1)).Nodup ∧ Q (.bl true) H
theorem o_Library_has_module (T : Tx w K mg d) (L : Tlb K mg d) (F : Fm K d.lb "has_module" "Library.has_module" s_Library_has_module) : OkM P w K mg base 3 d.lb "has_module" ["self", "value"] (spLHas d.lb) := by
  obtain ⟨f, fd, hm, F⟩ := F
  refine ⟨f, fd, hm, F.bindsN (fun _ _ _ _ _ _ us hl => match us, hl with | [_, _], _ => rfl), ?_⟩
  refine F.ok (k := 2) sc_Library_has_module (fun vs H Q E h => by obtain ⟨_, _, _, rfl, _⟩ := h; rfl) fun cdv A outer s H vs Q E hr h => ?_
  obtain ⟨a, ms, m, rfl, ⟨dx, e, ha, he, hms⟩, hmem, hnd, hQ⟩ := h
  refine ⟨_, PSs.nox (pss_one (ps_ret (pe_and (pe_callB call_isV (by rfl) T.b_isinstance (by decide +kernel) (pa_cons (pv 1) (pa_cons (pe_bltn (v := .ty "str") (u := .type "str") (by rfl) T.b_str (by decide +kernel) rfl) pa_nil))) (pe_one (pe_cmp (pc_din (hu_of hr) (pv 1) (pe_fld (pv 0) rfl)) rfl))))), ?_⟩
  try simp only [tFld_eq, tDIn_eq, n_Library_has_module, L2.start, cxK, cxW, cxK', cxW', is_ss, is_si, is_ii, is_ib, is_is, is_bs, is_ns, is_ni, is_nt, Bool.not_false, Bool.not_true, tSeq, tIfS, tRet, tRetN, tNext, tNever, tAsg, gName, tVar, tC, tOp, tUn, tCons, tNil, tCB, tCall, tTest, tB, tAnd, tOr, tNot, tAndV, tOrV, tNotV, tIf, tChain, rI0, rI, rU, rEq, rNe, List.map_cons, List.map_nil, List.length_cons, List.length_nil, List.replicate, List.cons_append, List.nil_append, List.append_nil, List.getElem?_cons_zero, List.getElem?_cons_succ, List.set_cons_zero, List.set_cons_succ, Option.some.injEq, exists_eq_left', exists_eq_left, exists_eq_right, V.str.injEq, V.int.injEq, V.bl.injEq, V.ref.injEq, V.ty.injEq, List.cons.injEq, and_true, true_and, exists_and_left, Nat.zero_add, Nat.add_sub_cancel, Nat.sub_self, Nat.succ_sub_succ_eq_sub, Nat.reduceSub, Nat.reduceAdd, Nat.sub_zero, tYes, tSl, tPart, tNoPart, if_true, Bool.false_eq_true, if_false, reduceCtorEq, false_and, exists_false, or_false, false_or, scal, tLc_eq, tFor_eq, iStr, iList, iTup, RZ.iZipA, decide_false, decide_true, tM1, tM0, tDrop, tAug, ipI]
  exact fldR ha L.lib L.na (lk1 _ _) (inR (getM he hnd hmem) hQ)
def spLIni (lb : Addr) : Sp := fun vs H Q _ => ∃ (a : Addr) (ms : List Mo) (m : Mo), vs = [.ref a, .str m.1] ∧ LibAt H lb a ms ∧ m ∈ ms ∧ (ms.map (·.1)).Nodup ∧ ∀ p H' xs, H p = none → Ex H H' → H' p = some (.lst xs) → ProgL H xs m.2.2 → Q (.ref p) H'
theorem o_Library_initializer (T : Tx w K mg d) (L : Tlb K mg d) (F : Fm K d.lb "initializer" "Library.initializer" s_Library_initializer) (o_Library_has_module : OkM P w K mg base 3 d.lb "has_module" ["self", "value"] (spLHas d.lb)) :
    OkM P w K mg base 4 d.lb "initializer" ["self", "module"] (spLIni d.lb) := by
  obtain ⟨f, fd, hm, F⟩ := F
  refine ⟨f, fd, hm, F.bindsN (fun _ _ _ _ _ _ us hl => match us, hl with | [_, _], _ => rfl), ?_⟩
  refine F.ok (k := 3) sc_Library_initializer (fun vs H Q E h => by obtain ⟨_, _, _, rfl, _⟩ := h; rfl) fun cdv A outer s H vs Q E hr h => ?_
  obtain ⟨a, ms, m, rfl, ⟨dx, e, ha, he, hms⟩, hmem, hnd, hQ⟩ := h
  refine ⟨_, PSs.nox (pss_cons (ps_if (pt_not (pt_val (pe_mtd (pv 0) L.lib o_Library_has_module (hr.mono (by decide)) pass0 (pa_cons (pv 1) pa_nil)))) (pss_one ps_never) pss_nil)
    (pss_one (ps_ret (pe_callTy call_list_of (by rfl) T.b_list (by decide +kernel) (pa_cons (pe_dget (hu_of hr) (pe_fld (pv 0) rfl) (pv 1) (fun _ _ => rfl)) pa_nil))))), ?_⟩
  try simp only [tFld_eq, tMeth_eq, tDGet_eq, n_Library_initializer, L2.start, cxK, cxW, cxK', cxW', is_ss, is_si, is_ii, is_ib, is_is, is_bs, is_ns, is_ni, is_nt, Bool.not_false, Bool.not_true, tSeq, tIfS, tRet, tRetN, tNext, tNever, tAsg, gName, tVar, tC, tOp, tUn, tCons, tNil, tCB, tCall, tTest, tB, tAnd, tOr, tNot, tAndV, tOrV, tNotV, tIf, tChain, rI0, rI, rU, rEq, rNe, List.map_cons, List.map_nil, List.length_cons, List.length_nil, List.replicate, List.cons_append, List.nil_append, List.append_nil, List.getElem?_cons_zero, List.getElem?_cons_succ, List.set_cons_zero, List.set_cons_succ, Option.some.injEq, exists_eq_left', exists_eq_left, exists_eq_right, V.str.injEq, V.int.injEq, V.bl.injEq, V.ref.injEq, V.ty.injEq, List.cons.injEq, and_true, true_and, exists_and_left, Nat.zero_add, Nat.add_sub_cancel, Nat.sub_self, Nat.succ_sub_succ_eq_sub, Nat.reduceSub, Nat.reduceAdd, Nat.sub_zero, tYes, tSl, tPart, tNoPart, if_true, Bool.false_eq_true, if_false, reduceCtorEq, false_and, exists_false, or_false, false_or, scal, tLc_eq, tFor_eq, iStr, iList, iTup, RZ.iZipA, decide_false, decide_true, tM1, tM0, tDrop, tAug, ipI]
  obtain ⟨xs, hxs, hpl⟩ := hms m hmem
  refine methR ha (lk0 (by decide +kernel)) ?_
  try simp only [is_ss, is_si, is_ii, is_ib, is_is, is_bs, is_ns, is_ni, is_nt, Bool.not_false, Bool.not_true, tSeq, tIfS, tRet, tRetN, tNext, tNever, tAsg, gName, tVar, tC, tOp, tUn, tCons, tNil, tCB, tCall, tTest, tB, tAnd, tOr, tNot, tAndV, tOrV, tNotV, tIf, tChain, rI0, rI, rU, rEq, rNe, List.map_cons, List.map_nil, List.length_cons, List.length_nil, List.replicate, List.cons_append, List.nil_append, List.append_nil, List.getElem?_cons_zero, List.getElem?_cons_succ, List.set_cons_zero, List.set_cons_succ, Option.some.injEq, exists_eq_left', exists_eq_left, exists_eq_right, V.str.injEq, V.int.injEq, V.bl.injEq, V.ref.injEq, V.ty.injEq, List.cons.injEq, and_true, true_and, exists_and_left, Nat.zero_add, Nat.add_sub_cancel, Nat.sub_self, Nat.succ_sub_succ_eq_sub, Nat.reduceSub, Nat.reduceAdd, Nat.sub_zero, tYes, tSl, tPart, tNoPart, if_true, Bool.false_eq_true, if_false, reduceCtorEq, false_and, exists_false, or_false, false_or, scal, tLc_eq, tFor_eq, iStr, iList, iTup, RZ.iZipA, decide_false, decide_true, tM1, tM0, tDrop, tAug, ipI]
  refine ⟨a, ms, m, rfl, ⟨dx, e, ha, he, hms⟩, hmem, hnd, true, rfl, ?_⟩
  try simp only [is_ss, is_si, is_ii, is_ib, is_is, is_bs, is_ns, is_ni, is_nt, Bool.not_false, Bool.not_true, tSeq, tIfS, tRet, tRetN, tNext, tNever, tAsg, gName, tVar, tC, tOp, tUn, tCons, tNil, tCB, tCall, tTest, tB, tAnd, tOr, tNot, tAndV, tOrV, tNotV, tIf, tChain, rI0, rI, rU, rEq, rNe, List.map_cons, List.map_nil, List.length_cons, List.length_nil, List.replicate, List.cons_append, List.nil_append, List.append_nil, List.getElem?_cons_zero, List.getElem?_cons_succ, List.set_cons_zero, List.set_cons_succ, Option.some.injEq, exists_eq_left', exists_eq_left, exists_eq_right, V.str.injEq, V.int.injEq, V.bl.injEq, V.ref.injEq, V.ty.injEq, List.cons.injEq, and_true, true_and, exists_and_left, Nat.zero_add, Nat.add_sub_cancel, Nat.sub_self, Nat.succ_sub_succ_eq_sub, Nat.reduceSub, Nat.reduceAdd, Nat.sub_zero, tYes, tSl, tPart, tNoPart, if_true, Bool.false_eq_true, if_false, reduceCtorEq, false_and, exists_false, or_false, false_or, scal, tLc_eq, tFor_eq, iStr, iList, iTup, RZ.iZipA, decide_false, decide_true, tM1, tM0, tDrop, tAug, ipI]
  refine fldR ha L.lib L.na (lk1 _ _) ?_
  try simp only [is_ss, is_si, is_ii, is_ib, is_is, is_bs, is_ns, is_ni, is_nt, Bool.not_false, Bool.not_true, tSeq, tIfS, tRet, tRetN, tNext, tNever, tAsg, gName, tVar, tC, tOp, tUn, tCons, tNil, tCB, tCall, tTest, tB, tAnd, tOr, tNot, tAndV, tOrV, tNotV, tIf, tChain, rI0, rI, rU, rEq, rNe, List.map_cons, List.map_nil, List.length_cons, List.length_nil, List.replicate, List.cons_append, List.nil_append, List.append_nil, List.getElem?_cons_zero, List.getElem?_cons_succ, List.set_cons_zero, List.set_cons_succ, Option.some.injEq, exists_eq_left', exists_eq_left, exists_eq_right, V.str.injEq, V.int.injEq, V.bl.injEq, V.ref.injEq, V.ty.injEq, List.cons.injEq, and_true, true_and, exists_and_left, Nat.zero_add, Nat.add_sub_cancel, Nat.sub_self, Nat.succ_sub_succ_eq_sub, Nat.reduceSub, Nat.reduceAdd, Nat.sub_zero, tYes, tSl, tPart, tNoPart, if_true, Bool.false_eq_true, if_false, reduceCtorEq, false_and, exists_false, or_false, false_or, scal, tLc_eq, tFor_eq, iStr, iList, iTup, RZ.iZipA, decide_false, decide_true, tM1, tM0, tDrop, tAug, ipI]
  refine getR (getM he hnd hmem) ?_
  try simp only [is_ss, is_si, is_ii, is_ib, is_is, is_bs, is_ns, is_ni, is_nt, Bool.not_false, Bool.not_true, tSeq, tIfS, tRet, tRetN, tNext, tNever, tAsg, gName, tVar, tC, tOp, tUn, tCons, tNil, tCB, tCall, tTest, tB, tAnd, tOr, tNot, tAndV, tOrV, tNotV, tIf, tChain, rI0, rI, rU, rEq, rNe, List.map_cons, List.map_nil, List.length_cons, List.length_nil, List.replicate, List.cons_append, List.nil_append, List.append_nil, List.getElem?_cons_zero, List.getElem?_cons_succ, List.set_cons_zero, List.set_cons_succ, Option.some.injEq, exists_eq_left', exists_eq_left, exists_eq_right, V.str.injEq, V.int.injEq, V.bl.injEq, V.ref.injEq, V.ty.injEq, List.cons.injEq, and_true, true_and, exists_and_left, Nat.zero_add, Nat.add_sub_cancel, Nat.sub_self, Nat.succ_sub_succ_eq_sub, Nat.reduceSub, Nat.reduceAdd, Nat.sub_zero, tYes, tSl, tPart, tNoPart, if_true, Bool.false_eq_true, if_false, reduceCtorEq, false_and, exists_false, or_false, false_or, scal, tLc_eq, tFor_eq, iStr, iList, iTup, RZ.iZipA, decide_false, decide_true, tM1, tM0, tDrop, tAug, ipI]
  refine ⟨_, .inr (SqT.of hxs), fun p hp => ?_⟩
  exact hQ p _ xs hp (Ex.new hp) upd_same hpl
/-! ### library_text -/
abbrev nlS : Str := Str.ofString "\n"
def rowsOut (ms : List Mo) : List Str := ms.flatMap fun m => (Str.ofString "module " ++ m.1) :: m.2.2
theorem conv_show {k it : Str} (h : itemB k (convV k it) = true) : showV (convV k it) = it := by
  unfold convV at *
  by_cases hk : k = Str.ofString "integer" ∨ k = Str.ofString "amount"
  · rw [if_pos hk] at *
    have hn : numB (tl it) = true := by
      cases hb : numB (tl it) with
      | true => rfl
      | false =>
        unfold numV at h
        rw [hb] at h
        rcases hk with e | e
        · rw [e] at h
          exact absurd (show false = true from h) (by decide)
        · rw [e] at h
          exact absurd (show false = true from h) (by decide)
    unfold numV
    rw [if_pos hn]
    refine TL.ext_tl ?_
    show TL.tl (Str.ofString (toString (numI (tl it)))) = tl it
    unfold numB at hn
    obtain ⟨h1, h2⟩ := Bool.and_eq_true_iff.mp hn
    obtain ⟨h3, h4⟩ := Bool.and_eq_true_iff.mp h1
    have hne : digsL (tl it) ≠ [] := by
      intro z
      rw [z] at h3
      exact absurd h3 (by decide)
    have q := num_back h4 hne
    rw [h2] at q
    exact of_decide_eq_true q
  · rw [if_neg hk] at *
    rfl
theorem conv_shown (k it : Str) (hl : it.length ≤ 30) : Shown (convV k it) ∨ convV k it = .non := by
  unfold convV
  split
  · unfold numV
    split
    · rename_i hb
      refine .inl (.inr ⟨_, rfl, ?_⟩)
      unfold numB at hb
      obtain ⟨h1, h2⟩ := Bool.and_eq_true_iff.mp hb
      obtain ⟨h3, h4⟩ := Bool.and_eq_true_iff.mp h1
      exact numI_small h4 (by rw [← show it.length = (tl it).length from TL.len_tl it]; exact hl)
    · exact .inr rfl
  · exact .inl (.inl ⟨_, rfl⟩)
theorem sol_text {y : Str} {wd : Str} {rest : List V} (h : solM y = some (.str wd :: rest)) (hy : LineOk y) : Str.ofString "  " ++ Txt.join (Str.ofString " ") ((.str wd :: rest).map showV) = y ∧ (∀ v ∈ rest, Shown v) ∧
    ((((.str wd :: rest).map showV).map (·.length)).sum + (rest.length + 1) ≤ 16777216) := by
  have hw := hy.rest
  unfold solM at h
  split at h
  · rename_i hi
    cases q : wordsS (restS y) with
    | nil => rw [q] at h; cases h
    | cons w0 its =>
      rw [q] at h hw
      cases hk : formK w0 with
      | none => rw [readW_none hk] at h; cases h
      | some ks =>
        rw [readW_of hk] at h
        by_cases hc : its.length = ks.length ∧ stepB ks (convL ks its) = true
        · rw [if_pos hc] at h
          injection h with h
          injection h with h1 h2
          cases h1
          subst h2
          obtain ⟨hlen, hsb⟩ := hc
          have hz : ks.zip (convL ks its) = (ks.zip its).map fun q => (q.1, convV q.1 q.2) := by
            unfold convL
            apply List.ext_getElem
            · simp
            · intro i h1 h2
              simp
          have hsb2 : ∀ q ∈ ks.zip its, itemB q.1 (convV q.1 q.2) = true := by
            intro q hq
            unfold stepB at hsb
            rw [hz, List.all_map] at hsb
            exact List.all_eq_true.mp hsb q hq
          have hshow : (convL ks its).map showV = its := by
            unfold convL
            rw [List.map_map]
            have e : (ks.zip its).map (showV ∘ fun q => convV q.1 q.2) = (ks.zip its).map Prod.snd := List.map_congr_left fun q hq => conv_show (hsb2 q hq)
            rw [e, List.map_snd_zip (by omega)]
          have hall : ((.str wd :: convL ks its).map showV) = wordsS (restS y) := by
            rw [List.map_cons, hshow, q]
            rfl
          have hks := forms_short hk
          refine ⟨?_, fun v hv => ?_, ?_⟩
          · rw [hall]
            refine TL.ext_tl ?_
            rw [TL.tl_append, TL.join_eq, TL.tl_join]
            rw [show TL.tl (Str.ofString " ") = [32] from tl_blank, glue_joinL]
            rw [show (wordsS (restS y)).map TL.tl = cut 32 (tl (restS y)) from words_tl _, glue_cut]
            rw [show TL.tl (Str.ofString "  ") = [32, 32] from tl_ind, show tl (restS y) = (tl y).drop 2 from tl_cut_from y 2]
            have hp : ((tl y).take 2 == [32, 32]) = true := hi
            rw [← eq_of_beq hp]
            exact List.take_append_drop 2 _
          · obtain ⟨q, hq, rfl⟩ := List.mem_map.mp hv
            have hit : q.2 ∈ its := (List.of_mem_zip hq).2
            rcases conv_shown q.1 q.2 (hw _ (List.mem_cons_of_mem _ hit)) with z | z
            · exact z
            · have := hsb2 q hq
              rw [z] at this
              unfold itemB at this
              split at this
              · cases this
              · split at this
                · cases this
                · split at this
                  · cases this
                  · cases this
          · rw [hall, q]
            have key : ∀ l : List Str, (∀ x ∈ l, x.length ≤ 30) → (l.map (·.length)).sum ≤ 30 * l.length := by
              intro l
              induction l with
              | nil => intro _; simp
              | cons a r ih =>
                intro hl
                rw [List.map_cons, List.sum_cons, List.length_cons]
                have := hl a List.mem_cons_self
                have := ih fun x hx => hl x (List.mem_cons_of_mem _ hx)
                omega
            have h3 := key (wd :: its) hw
            rw [List.length_cons] at h3
            have h4 : (convL ks its).length = its.length := by
              have := congrArg List.length hshow
              rw [List.length_map] at this
              exact this
            omega
        · rw [if_neg hc] at h
          cases h
  · cases h
def spLText (lb : Addr) : Sp := fun vs H Q _ => ∃ (a : Addr) (ms : List Mo) (names : List Str), vs = [.ref a] ∧ LibAt H lb a ms ∧ (ms.map (·.1)).Nodup ∧ (∀ m ∈ ms, m.1.length ≤ 8 ∧ RowsOk names m.2.2) ∧ (rowsOut ms).length ≤ 3000000 ∧ (∀ y ∈ rowsOut ms, y.length ≤ 1000000) ∧
  ((rowsOut ms).map (fun y => y.length + 1)).sum ≤ 4000000 ∧ ∀ H' z, Ex H H' → tl z = (rowsOut ms).flatMap (fun y => tl y ++ [10]) → Q (.str z) H'
theorem LibAt.mono {H H' : Hp} {lb a : Addr} {ms : List Mo} (h : LibAt H lb a ms) (e : Ex H H') : LibAt H' lb a ms := by
  obtain ⟨dx, q, h1, h2, h3⟩ := h
  exact ⟨dx, q, e a _ h1, e q _ h2, fun m hm => let ⟨xs, q1, q2⟩ := h3 m hm; ⟨xs, e _ _ q1, q2.mono e⟩⟩
theorem given_all (n : Nat) (v : Nat → V) : given n (fun _ => true) v = (List.range n).map v := by
  unfold given
  rw [List.filter_eq_self.mpr (fun _ _ => rfl)]
theorem range_rows (rows : List Str) : (List.range rows.length).map (fun j => V.str (rows.getD j nlS)) = rows.map V.str := by
  apply List.ext_getElem
  · simp
  · intro i h1 h2
    rw [List.length_map] at h2
    simp [h2]
theorem joinL_nil : ∀ ps : List (List Nat), TL.joinL [] ps = ps.flatten
  | [] => rfl
  | [p] => by simp [TL.joinL]
  | p :: q :: r => by
    show p ++ ([] ++ TL.joinL [] (q :: r)) = _
    rw [joinL_nil (q :: r)]
    simp
theorem o_library_text (T : Tx w K mg d) (L : Tlb K mg d) (F : Fd K mg "library_text" s_library_text []) (o_Library_modules : OkM P w K mg base 3 d.lb "modules" ["self"] (spLMods d.lb)) (o_Library_initializer : OkM P w K mg base 4 d.lb "initializer" ["self", "module"] (spLIni d.lb)) (o_step_text : Ok0 P w K mg base 6 "step_text" ["step"] spText) :
    Ok0 P w K mg base 8 "library_text" ["library"] (spLText d.lb) := by
  refine mkOk 7 F sc_library_text (fun _ _ _ _ _ _ us hl => match us, hl with | [_], _ => rfl) (fun vs H Q E h => by obtain ⟨_, _, _, rfl, _⟩ := h; rfl) fun f cdv A outer s H vs Q E hr h => ?_
  obtain ⟨a, ms, names, rfl, hla, hnd, hms, hlen, hyl, hsum, hQ⟩ := h
  refine ⟨_, PSs.nox (pss_cons (ps_set (i := 1) sc_library_text.nd rfl (.inl rfl) (pe_lst pa_nil))
    (pss_cons (ps_for PassesOwn.never rfl (pi_list (pe_mtd0 (pv 0) L.lib o_Library_modules (hr.mono (by decide)) pass0)) (pg_name (i := 2) sc_library_text.nd rfl (.inl rfl)) (pss_cons (ps_expr (pe_bm PySem.F.plainAttrs_list PySem.F.slot_list_append PySem.F.type_list_append mt_append (pv 1) (pa_cons (pe_op op_add_str (pe_gs T.c_HEAD) (pv 2)) pa_nil)))
    (pss_one (ps_expr (pe_bm PySem.F.plainAttrs_list PySem.F.slot_list_extend PySem.F.type_list_extend mt_extend (pv 1) (pa_cons (pe_lc (own := [("step", 4)]) rfl sc_library_text.nd (pi_list (pe_mtd (pv 0) L.lib o_Library_initializer (hr.mono (by decide)) pass0 (pa_cons (pv 2) pa_nil))) (blkOk_by (own := [("step", 4)]) (N := n_library_text) (sc := defScope s_library_text) (by decide +kernel)) (fun _ _ _ _ _ => (pg_name (i := 4) sc_library_text.nd rfl (Or.inl rfl))) (fun _ _ _ _ _ => pts_nil) (fun _ _ _ _ _ => (pe_op op_add_str (pe_gs T.c_INDENT) (pe_c o_step_text (hr.mono (by decide)) pass0 (pa_cons (pv 4) pa_nil))))) pa_nil))))))
    (pss_one (ps_ret (pe_join pe_str (pe_lc (own := [("line", 3)]) rfl sc_library_text.nd (pi_list (pv 1)) (blkOk_by (own := [("line", 3)]) (N := n_library_text) (sc := defScope s_library_text) (by decide +kernel)) (fun _ _ _ _ _ => (pg_name (i := 3) sc_library_text.nd rfl (Or.inl rfl))) (fun _ _ _ _ _ => pts_nil) (fun _ _ _ _ _ => (pe_op op_add_str (pv 3) pe_str)))))))), ?_⟩
  try simp only [tLst, tMeth_eq, n_library_text, L2.start, cxK, cxW, cxK', cxW', is_ss, is_si, is_ii, is_ib, is_is, is_bs, is_ns, is_ni, is_nt, Bool.not_false, Bool.not_true, tSeq, tIfS, tRet, tRetN, tNext, tNever, tAsg, gName, tVar, tC, tOp, tUn, tCons, tNil, tCB, tCall, tTest, tB, tAnd, tOr, tNot, tAndV, tOrV, tNotV, tIf, tChain, rI0, rI, rU, rEq, rNe, List.map_cons, List.map_nil, List.length_cons, List.length_nil, List.replicate, List.cons_append, List.nil_append, List.append_nil, List.getElem?_cons_zero, List.getElem?_cons_succ, List.set_cons_zero, List.set_cons_succ, Option.some.injEq, exists_eq_left', exists_eq_left, exists_eq_right, V.str.injEq, V.int.injEq, V.bl.injEq, V.ref.injEq, V.ty.injEq, List.cons.injEq, and_true, true_and, exists_and_left, Nat.zero_add, Nat.add_sub_cancel, Nat.sub_self, Nat.succ_sub_succ_eq_sub, Nat.reduceSub, Nat.reduceAdd, Nat.sub_zero, tYes, tSl, tPart, tNoPart, if_true, Bool.false_eq_true, if_false, reduceCtorEq, false_and, exists_false, or_false, false_or, scal, tLc_eq, tFor_eq, iStr, iList, iTup, RZ.iZipA, decide_false, decide_true, tM1, tM0, tDrop, tAug, ipI]
  refine ⟨Nat.zero_le _, fun lp hlp => ?_⟩
  have e1 : Ex H (upd H lp (.lst [])) := Ex.new hlp
  obtain ⟨dx, e, ha, he, hmm⟩ := id hla
  refine methR (e1 a _ ha) (lk0 (by decide +kernel)) ?_
  try simp only [is_ss, is_si, is_ii, is_ib, is_is, is_bs, is_ns, is_ni, is_nt, Bool.not_false, Bool.not_true, tSeq, tIfS, tRet, tRetN, tNext, tNever, tAsg, gName, tVar, tC, tOp, tUn, tCons, tNil, tCB, tCall, tTest, tB, tAnd, tOr, tNot, tAndV, tOrV, tNotV, tIf, tChain, rI0, rI, rU, rEq, rNe, List.map_cons, List.map_nil, List.length_cons, List.length_nil, List.replicate, List.cons_append, List.nil_append, List.append_nil, List.getElem?_cons_zero, List.getElem?_cons_succ, List.set_cons_zero, List.set_cons_succ, Option.some.injEq, exists_eq_left', exists_eq_left, exists_eq_right, V.str.injEq, V.int.injEq, V.bl.injEq, V.ref.injEq, V.ty.injEq, List.cons.injEq, and_true, true_and, exists_and_left, Nat.zero_add, Nat.add_sub_cancel, Nat.sub_self, Nat.succ_sub_succ_eq_sub, Nat.reduceSub, Nat.reduceAdd, Nat.sub_zero, tYes, tSl, tPart, tNoPart, if_true, Bool.false_eq_true, if_false, reduceCtorEq, false_and, exists_false, or_false, false_or, scal, tLc_eq, tFor_eq, iStr, iList, iTup, RZ.iZipA, decide_false, decide_true, tM1, tM0, tDrop, tAug, ipI]
  refine ⟨a, ms, rfl, hla.mono e1, fun p H2 hp e2 h2 => ⟨p, rfl, ⟨_, SqL.of h2⟩, ?_⟩⟩
  have hml : ((ms.map (·.1)).map V.str).length = ms.length := by rw [List.length_map, List.length_map]
  have hmsl : ms.length ≤ (rowsOut ms).length := by
    unfold rowsOut
    clear hlen hyl hsum hQ hmm he hla hnd hms h2 hml
    induction ms with
    | nil => exact Nat.zero_le _
    | cons m r ih =>
      rw [List.flatMap_cons, List.length_append, List.length_cons, List.length_cons]
      omega
  have hlp2 : H2 lp = some (.lst []) := e2 lp _ upd_same
  have hplp : p ≠ lp := fun z => by rw [z, upd_same] at hp; cases hp
  obtain ⟨Pv, hPv⟩ : ∃ P0 : Nat → L2.St → Hp → Prop, ∀ i σ' H', P0 i σ' H' ↔ ((∃ u v z, σ' = [some (V.ref a), some (V.ref lp), u, v, z]) ∧ Ex H H' ∧ H' p = some (.lst ((ms.map (·.1)).map V.str)) ∧ H' lp = some (.lst ((rowsOut (ms.take i)).map V.str))) := ⟨_, fun _ _ _ => Iff.rfl⟩
  refine forP (goes_list (xs := (ms.map (·.1)).map V.str) (small (by omega))) Pv ((hPv _ _ _).mpr ⟨⟨_, _, _, rfl⟩, e1.trans e2, h2, hlp2⟩) (fun i σ' H' q => SqL.of ((hPv _ _ _).mp q).2.2.1) ?_ ?_
  · intro i σ' H' H3 hi hq e3
    obtain ⟨⟨u, v, z, rfl⟩, e4, hp4, hlp4⟩ := (hPv _ _ _).mp hq
    rw [hml] at hi
    have hii : ((ms.map (·.1)).map V.str)[i]? = some (V.str ms[i].1) := by simp [hi]
    have hmem : ms[i] ∈ ms := List.getElem_mem hi
    obtain ⟨hnl, hro⟩ := hms _ hmem
    rw [hii]
    try simp only [tBM, tMeth_eq, is_ss, is_si, is_ii, is_ib, is_is, is_bs, is_ns, is_ni, is_nt, Bool.not_false, Bool.not_true, tSeq, tIfS, tRet, tRetN, tNext, tNever, tAsg, gName, tVar, tC, tOp, tUn, tCons, tNil, tCB, tCall, tTest, tB, tAnd, tOr, tNot, tAndV, tOrV, tNotV, tIf, tChain, rI0, rI, rU, rEq, rNe, List.map_cons, List.map_nil, List.length_cons, List.length_nil, List.replicate, List.cons_append, List.nil_append, List.append_nil, List.getElem?_cons_zero, List.getElem?_cons_succ, List.set_cons_zero, List.set_cons_succ, Option.some.injEq, exists_eq_left', exists_eq_left, exists_eq_right, V.str.injEq, V.int.injEq, V.bl.injEq, V.ref.injEq, V.ty.injEq, List.cons.injEq, and_true, true_and, exists_and_left, Nat.zero_add, Nat.add_sub_cancel, Nat.sub_self, Nat.succ_sub_succ_eq_sub, Nat.reduceSub, Nat.reduceAdd, Nat.sub_zero, tYes, tSl, tPart, tNoPart, if_true, Bool.false_eq_true, if_false, reduceCtorEq, false_and, exists_false, or_false, false_or, scal, tLc_eq, tFor_eq, iStr, iList, iTup, RZ.iZipA, decide_false, decide_true, tM1, tM0, tDrop, tAug, ipI]
    have hlp3 := e3 lp _ hlp4
    have hout : (rowsOut (ms.take i)).length ≤ (rowsOut ms).length := by
      conv => rhs; rw [← List.take_append_drop i ms]
      unfold rowsOut
      rw [List.flatMap_append, List.length_append]
      omega
    have hhead : (Str.ofString "module " ++ ms[i].1) ∈ rowsOut ms := List.mem_flatMap.mpr ⟨ms[i], hmem, List.mem_cons_self⟩
    refine ⟨tyL (SqL.of hlp3), small' (by rw [len_head]; omega), appQ hlp3 (small (by rw [List.length_map]; omega)) ?_⟩
    obtain ⟨H4, hH4⟩ : ∃ H4, H4 = upd H3 lp (.lst ((rowsOut (ms.take i)).map V.str ++ [V.str (Str.ofString "module " ++ ms[i].1)])) := ⟨_, rfl⟩
    have x4 : Ex H H4 := by rw [hH4]; exact Ex.mut (e4.trans e3) hlp
    have hlp5 : H4 lp = some (.lst ((rowsOut (ms.take i)).map V.str ++ [V.str (Str.ofString "module " ++ ms[i].1)])) := by rw [hH4, upd_same]
    have hp5 : H4 p = some (.lst ((ms.map (·.1)).map V.str)) := by rw [hH4, upd_ne hplp]; exact e3 p _ hp4
    rw [← hH4]
    refine ⟨tyL (SqL.of hlp5), methR (x4 a _ ha) (lk0 (by decide +kernel)) ?_⟩
    try simp only [is_ss, is_si, is_ii, is_ib, is_is, is_bs, is_ns, is_ni, is_nt, Bool.not_false, Bool.not_true, tSeq, tIfS, tRet, tRetN, tNext, tNever, tAsg, gName, tVar, tC, tOp, tUn, tCons, tNil, tCB, tCall, tTest, tB, tAnd, tOr, tNot, tAndV, tOrV, tNotV, tIf, tChain, rI0, rI, rU, rEq, rNe, List.map_cons, List.map_nil, List.length_cons, List.length_nil, List.replicate, List.cons_append, List.nil_append, List.append_nil, List.getElem?_cons_zero, List.getElem?_cons_succ, List.set_cons_zero, List.set_cons_succ, Option.some.injEq, exists_eq_left', exists_eq_left, exists_eq_right, V.str.injEq, V.int.injEq, V.bl.injEq, V.ref.injEq, V.ty.injEq, List.cons.injEq, and_true, true_and, exists_and_left, Nat.zero_add, Nat.add_sub_cancel, Nat.sub_self, Nat.succ_sub_succ_eq_sub, Nat.reduceSub, Nat.reduceAdd, Nat.sub_zero, tYes, tSl, tPart, tNoPart, if_true, Bool.false_eq_true, if_false, reduceCtorEq, false_and, exists_false, or_false, false_or, scal, tLc_eq, tFor_eq, iStr, iList, iTup, RZ.iZipA, decide_false, decide_true, tM1, tM0, tDrop, tAug, ipI]
    refine ⟨a, ms, ms[i], rfl, hla.mono x4, hmem, hnd, fun p2 H5 xs hp2 e5 h5 hpl => ⟨p2, rfl, ⟨_, SqL.of h5⟩, ?_⟩⟩
    have hxl : xs.length ≤ 30 := by rw [hpl.1]; exact hro.1
    refine lcE (goes_list (xs := xs) (small (by omega))) (fun _ _ => rfl) (fun H' e => ex_l e (SqL.of h5)) (fun _ => true) (fun j => V.str (ms[i].2.2.getD j nlS)) (fun _ _ _ _ => et_yes) (fun j H6 hj e6 _ H7 e7 Q' q' => ?_) (fun D H6 hD e6 h6 => ?_)
    · have hj2 : j < ms[i].2.2.length := by rw [← hpl.1]; exact hj
      have hyj : ms[i].2.2[j]? = some ms[i].2.2[j] := by simp [hj2]
      obtain ⟨r, items, q1, q2, q3⟩ := hpl.2 j _ hyj
      have hline := hro.2.1 _ (List.getElem_mem hj2)
      obtain ⟨wd, ks, rest, rfl, hk, hst, hsb⟩ := sol_good q2 hline
      obtain ⟨t1, t2, t3⟩ := sol_text q2 hline
      rw [q1]
      try simp only [wipe, is_ss, is_si, is_ii, is_ib, is_is, is_bs, is_ns, is_ni, is_nt, Bool.not_false, Bool.not_true, tSeq, tIfS, tRet, tRetN, tNext, tNever, tAsg, gName, tVar, tC, tOp, tUn, tCons, tNil, tCB, tCall, tTest, tB, tAnd, tOr, tNot, tAndV, tOrV, tNotV, tIf, tChain, rI0, rI, rU, rEq, rNe, List.map_cons, List.map_nil, List.length_cons, List.length_nil, List.replicate, List.cons_append, List.nil_append, List.append_nil, List.getElem?_cons_zero, List.getElem?_cons_succ, List.set_cons_zero, List.set_cons_succ, Option.some.injEq, exists_eq_left', exists_eq_left, exists_eq_right, V.str.injEq, V.int.injEq, V.bl.injEq, V.ref.injEq, V.ty.injEq, List.cons.injEq, and_true, true_and, exists_and_left, Nat.zero_add, Nat.add_sub_cancel, Nat.sub_self, Nat.succ_sub_succ_eq_sub, Nat.reduceSub, Nat.reduceAdd, Nat.sub_zero, tYes, tSl, tPart, tNoPart, if_true, Bool.false_eq_true, if_false, reduceCtorEq, false_and, exists_false, or_false, false_or, scal, tLc_eq, tFor_eq, iStr, iList, iTup, RZ.iZipA, decide_false, decide_true, tM1, tM0, tDrop, tAug, ipI]
      refine ⟨r, wd, ks, rest, rfl, ⟨((e5.trans e6).trans e7) r _ q3, hst, hsb⟩, t2, t3, fun H8 e8 => ⟨_, rfl, ?_, ?_⟩⟩
      · have ht := congrArg Str.length t1
        rw [len_app] at ht
        rw [ht]
        have := hline.len
        exact small' (by omega)
      · rw [t1]
        have eg : ms[i].2.2.getD j nlS = ms[i].2.2[j] := by rw [List.getD_eq_getElem?_getD, hyj]; rfl
        rw [eg] at q'
        exact q' H8 e8
    · rw [given_all, hpl.1, range_rows] at h6
      have hlp6 := (e5.trans e6) lp _ hlp5
      have hrl := hro.1
      refine ⟨lp, D, _, _, rfl, rfl, hlp6, h6, small' (by rw [List.length_append, List.length_map, List.length_map]; simp; omega), (hPv _ _ _).mpr ⟨⟨_, _, _, rfl⟩, Ex.mut ((x4.trans e5).trans e6) hlp, ?_, ?_⟩⟩
      · rw [upd_ne hplp]
        exact (e5.trans e6) p _ hp5
      · rw [upd_same, List.take_add_one, List.getElem?_eq_getElem hi]
        have e9 : rowsOut (ms.take i ++ [ms[i]]) = rowsOut (ms.take i) ++ ((Str.ofString "module " ++ ms[i].1) :: ms[i].2.2) := by
          unfold rowsOut
          rw [List.flatMap_append]
          simp
        rw [show (some ms[i]).toList = [ms[i]] from rfl, e9, List.map_append, List.map_cons, List.append_assoc]
        rfl
  · intro σ' H' hq
    obtain ⟨⟨u, v, z, rfl⟩, e4, hp4, hlp4⟩ := (hPv _ _ _).mp hq
    rw [hml, List.take_length] at hlp4
    try simp only [is_ss, is_si, is_ii, is_ib, is_is, is_bs, is_ns, is_ni, is_nt, Bool.not_false, Bool.not_true, tSeq, tIfS, tRet, tRetN, tNext, tNever, tAsg, gName, tVar, tC, tOp, tUn, tCons, tNil, tCB, tCall, tTest, tB, tAnd, tOr, tNot, tAndV, tOrV, tNotV, tIf, tChain, rI0, rI, rU, rEq, rNe, List.map_cons, List.map_nil, List.length_cons, List.length_nil, List.replicate, List.cons_append, List.nil_append, List.append_nil, List.getElem?_cons_zero, List.getElem?_cons_succ, List.set_cons_zero, List.set_cons_succ, Option.some.injEq, exists_eq_left', exists_eq_left, exists_eq_right, V.str.injEq, V.int.injEq, V.bl.injEq, V.ref.injEq, V.ty.injEq, List.cons.injEq, and_true, true_and, exists_and_left, Nat.zero_add, Nat.add_sub_cancel, Nat.sub_self, Nat.succ_sub_succ_eq_sub, Nat.reduceSub, Nat.reduceAdd, Nat.sub_zero, tYes, tSl, tPart, tNoPart, if_true, Bool.false_eq_true, if_false, reduceCtorEq, false_and, exists_false, or_false, false_or, scal, tLc_eq, tFor_eq, iStr, iList, iTup, RZ.iZipA, decide_false, decide_true, tM1, tM0, tDrop, tAug, ipI]
    refine ⟨⟨_, rfl⟩, ⟨_, SqL.of hlp4⟩, ?_⟩
    refine lcMA (gv := V.str) (goes_list (xs := (rowsOut ms).map V.str) (small (by rw [List.length_map]; omega))) (fun H2 e => ex_l e (SqL.of hlp4)) (fun y => V.str (y ++ nlS)) (fun y hy H1 e Q' q' => ?_) (fun D H2 hD e h3 => ?_) (fun _ => rfl)
    · try simp only [wipe, is_ss, is_si, is_ii, is_ib, is_is, is_bs, is_ns, is_ni, is_nt, Bool.not_false, Bool.not_true, tSeq, tIfS, tRet, tRetN, tNext, tNever, tAsg, gName, tVar, tC, tOp, tUn, tCons, tNil, tCB, tCall, tTest, tB, tAnd, tOr, tNot, tAndV, tOrV, tNotV, tIf, tChain, rI0, rI, rU, rEq, rNe, List.map_cons, List.map_nil, List.length_cons, List.length_nil, List.replicate, List.cons_append, List.nil_append, List.append_nil, List.getElem?_cons_zero, List.getElem?_cons_succ, List.set_cons_zero, List.set_cons_succ, Option.some.injEq, exists_eq_left', exists_eq_left, exists_eq_right, V.str.injEq, V.int.injEq, V.bl.injEq, V.ref.injEq, V.ty.injEq, List.cons.injEq, and_true, true_and, exists_and_left, Nat.zero_add, Nat.add_sub_cancel, Nat.sub_self, Nat.succ_sub_succ_eq_sub, Nat.reduceSub, Nat.reduceAdd, Nat.sub_zero, tYes, tSl, tPart, tNoPart, if_true, Bool.false_eq_true, if_false, reduceCtorEq, false_and, exists_false, or_false, false_or, scal, tLc_eq, tFor_eq, iStr, iList, iTup, RZ.iZipA, decide_false, decide_true, tM1, tM0, tDrop, tAug, ipI]
      refine ⟨small' (by rw [len_nl]; have := hyl y hy; omega), q' H1 (Ex.refl _)⟩
    · refine ⟨D, rfl, (rowsOut ms).map (fun y => y ++ nlS), .inl (SqL.of (by rw [h3, List.map_map]; rfl)), ?_, hQ H2 _ (e4.trans e) ?_⟩
      · have e0 : (Str.ofString "").length = 0 := by decide +kernel
        have e1 : ((rowsOut ms).map (fun y => y ++ nlS)).map (·.length) = (rowsOut ms).map (fun y => y.length + 1) := by
          rw [List.map_map]
          exact List.map_congr_left fun y _ => by
            show (y ++ nlS).length = y.length + 1
            rw [len_app, len_nl]
        rw [e0, Nat.mul_zero, e1]
        omega
      · show TL.tl (Txt.join (Str.ofString "") _) = _
        rw [TL.join_eq, TL.tl_join, show TL.tl (Str.ofString "") = [] from tl_empty, joinL_nil, List.map_map, List.flatMap_def]
        congr 1
        refine List.map_congr_left fun y _ => ?_
        show TL.tl (y ++ nlS) = _
        rw [TL.tl_append, show TL.tl nlS = [10] from tl_nl]

end K17

-- text K17Fw
set_option maxHeartbeats 8000000
namespace K17
open PySem PySem.Spec PyProof.Rows L2 Evl
variable {P : Program} {w : World} {K : PySem.W.Frag} {mg : Str → Option Value} {base : Heap} {d : Ad}
/-! ## what holds where first_wrong finds nothing -/
abbrev headS : Str := Str.ofString "module "
def modsL : List Str → List (Str × List Str)
  | [] => []
  | y :: r => match modS y with
    | some m => (m, r.takeWhile indB) :: modsL r
    | none => modsL r
theorem modS_head {y m : Str} (h : modS y = some m) : y = headS ++ m ∧ nmB m = true := by
  unfold modS at h
  split at h
  · rename_i hc
    cases h
    refine ⟨TL.ext_tl ?_, hc.2⟩
    have hp : ((tl y).take 7 == [109, 111, 100, 117, 108, 101, 32]) = true := hc.1
    rw [TL.tl_append, show TL.tl headS = [109, 111, 100, 117, 108, 101, 32] from tl_head, ← eq_of_beq hp, show TL.tl (cutS y (some 7) none) = (tl y).drop 7 from tl_cut_from y 7]
    exact (List.take_append_drop 7 _).symm
  · cases h
theorem modS_ind {y : Str} (h : indB y = true) : modS y = none := by
  unfold modS
  rw [if_neg]
  rintro ⟨h1, _⟩
  have e1 : ((tl y).take 7 == [109, 111, 100, 117, 108, 101, 32]) = true := h1
  have e2 : ((tl y).take 2 == [32, 32]) = true := h
  have e3 := eq_of_beq e1
  have e4 := eq_of_beq e2
  have e5 : (tl y).take 2 = ((tl y).take 7).take 2 := by rw [List.take_take]; rfl
  rw [e3, e4] at e5
  exact absurd e5 (by decide)
theorem modsL_skip : ∀ (b r : List Str), (∀ y ∈ b, indB y = true) → modsL (b ++ r) = modsL r
  | [], r, _ => rfl
  | y :: b, r, h => by
    show (match modS y with | some m => _ | none => modsL (b ++ r)) = _
    rw [modS_ind (h y List.mem_cons_self)]
    exact modsL_skip b r fun z hz => h z (List.mem_cons_of_mem _ hz)
theorem block_ind {ys : List Str} {j : Nat} : ∀ y ∈ blockS ys j, indB y = true := by
  intro y hy
  have key : ∀ l : List Str, ∀ z ∈ l.takeWhile indB, indB z = true := by
    intro l
    induction l with
    | nil => intro z hz; cases hz
    | cons a r ih =>
      intro z hz
      rw [List.takeWhile_cons] at hz
      split at hz
      · rename_i ha
        rcases List.mem_cons.mp hz with e | e
        · rw [e]; exact ha
        · exact ih z e
      · cases hz
  exact key _ y hy
theorem drop_block (ys : List Str) (j : Nat) : ys.drop j = blockS ys j ++ ys.drop (j + (blockS ys j).length) := by
  unfold blockS
  conv => lhs; rw [← List.takeWhile_append_dropWhile (p := indB) (l := ys.drop j)]
  congr 1
  rw [← List.drop_drop]
  conv => rhs; rw [← List.takeWhile_append_dropWhile (p := indB) (l := ys.drop j)]
  rw [List.drop_append_of_le_length (by rw [List.takeWhile_append_dropWhile]; exact Nat.le_refl _)]
  rw [List.takeWhile_append_dropWhile]
  simp
def ltS (a b : Str) : Prop := a.cps.toList < b.cps.toList
theorem ltS_trans {a b c : Str} (h1 : ltS a b) (h2 : ltS b c) : ltS a c := List.lt_trans h1 h2
def glueM (L : List (Str × List Str)) : List Str := L.flatMap fun q => (headS ++ q.1) :: q.2
theorem fw_none {ys names : List Str} : ∀ (fu i c : Nat) (b : Str), fwM ys names fu i c b = none → ys.length - i + 1 ≤ fu → c ≤ 40 →
    c + (modsL (ys.drop i)).length ≤ 40 ∧ (∀ q ∈ modsL (ys.drop i), ltS b q.1) ∧ (modsL (ys.drop i)).Pairwise (fun p q => ltS p.1 q.1) ∧ (∀ q ∈ modsL (ys.drop i), probS q.2 names = none ∧ nmB q.1 = true) ∧ ys.drop i = glueM (modsL (ys.drop i)) ∧
    (i < ys.length → modsL (ys.drop i) ≠ []) := by
  intro fu
  induction fu with
  | zero => intro i c b _ h; omega
  | succ fu ih =>
    intro i c b h hf hc
    by_cases hi : i < ys.length
    · have eg : ys.getD i (Str.ofString "") = ys[i] := by rw [List.getD_eq_getElem?_getD, List.getElem?_eq_getElem hi]; rfl
      have h1 : fwM ys names (fu + 1) i c b = (match modS ys[i] with
        | none => some i
        | some m => if (leS m b || decide (40 < c + 1)) = true then some i else
            match probS (blockS ys (i + 1)) names with
            | some k => some (i + 1 + k)
            | none => fwM ys names fu (i + 1 + (blockS ys (i + 1)).length) (c + 1) m) := by
        show (if i < ys.length then _ else none) = _
        rw [if_pos hi, eg]
        all_goals cases modS ys[i] with
        | none => rfl
        | some m => rfl
      rw [h1] at h
      cases hm : modS ys[i] with
      | none => rw [hm] at h; cases h
      | some m =>
        rw [hm] at h
        have h2 : (if (leS m b || decide (40 < c + 1)) = true then some i else
            match probS (blockS ys (i + 1)) names with
            | some k => some (i + 1 + k)
            | none => fwM ys names fu (i + 1 + (blockS ys (i + 1)).length) (c + 1) m) = none := h
        by_cases hb : (leS m b || decide (40 < c + 1)) = true
        · rw [if_pos hb] at h2; cases h2
        · rw [if_neg hb] at h2
          have hb1 : leS m b = false := by
            cases q : leS m b with
            | false => rfl
            | true => rw [q] at hb; exact absurd rfl hb
          have hb2 : ¬ 40 < c + 1 := by
            intro z
            rw [hb1, decide_eq_true z] at hb
            exact hb rfl
          cases hp : probS (blockS ys (i + 1)) names with
          | some k => rw [hp] at h2; cases h2
          | none =>
            rw [hp] at h2
            have hbl := block_len ys (i + 1)
            obtain ⟨r1, r2, r3, r4, r5, r6⟩ := ih (i + 1 + (blockS ys (i + 1)).length) (c + 1) m h2 (by omega) (by omega)
            have hd : ys.drop i = ys[i] :: ys.drop (i + 1) := List.drop_eq_getElem_cons hi
            have hL : modsL (ys.drop i) = (m, blockS ys (i + 1)) :: modsL (ys.drop (i + 1 + (blockS ys (i + 1)).length)) := by
              rw [hd]
              show (match modS ys[i] with | some m => (m, (ys.drop (i + 1)).takeWhile indB) :: modsL (ys.drop (i + 1)) | none => _) = _
              rw [hm]
              show (m, blockS ys (i + 1)) :: modsL (ys.drop (i + 1)) = _
              rw [drop_block ys (i + 1), modsL_skip _ _ block_ind]
            have hlt : ltS b m := by
              unfold leS at hb1
              simp at hb1
              exact hb1
            obtain ⟨hy, hn⟩ := modS_head hm
            rw [hL]
            refine ⟨by rw [List.length_cons]; omega, ?_, ?_, ?_, ?_, fun _ z => nomatch z⟩
            · intro q hq
              rcases List.mem_cons.mp hq with e | e
              · rw [e]; exact hlt
              · exact ltS_trans hlt (r2 q e)
            · exact List.pairwise_cons.mpr ⟨fun q hq => r2 q hq, r3⟩
            · intro q hq
              rcases List.mem_cons.mp hq with e | e
              · rw [e]; exact ⟨hp, hn⟩
              · exact r4 q e
            · show ys.drop i = ((headS ++ m) :: blockS ys (i + 1)) ++ glueM (modsL (ys.drop (i + 1 + (blockS ys (i + 1)).length)))
              rw [← r5, hd, List.cons_append, ← drop_block, ← hy]
    · have hd : ys.drop i = [] := List.drop_of_length_le (by omega)
      rw [hd]
      have e : modsL ([] : List Str) = [] := rfl
      rw [e]
      exact ⟨hc, (fun q hq => by cases hq), List.Pairwise.nil, (fun q hq => by cases hq), rfl, fun z => absurd z hi⟩
theorem prob_ok {rows names : List Str} (h : probS rows names = none) : rows.length ≤ 30 ∧ ∀ (i : Nat) (y : Str), rows[i]? = some y → wrongRow y ((rows.length : Int) - 1 - (i : Nat)) names = false := by
  unfold probS at h
  rw [List.find?_eq_none] at h
  have key : ∀ i, i < rows.length → badAt rows names i = false := by
    intro i hi
    have := h i (List.mem_range.mpr hi)
    simpa using this
  refine ⟨?_, fun i y hy => ?_⟩
  · apply Classical.byContradiction
    intro z
    have := key 30 (by omega)
    unfold badAt at this
    rw [decide_eq_true (by decide : 30 ≤ 30), Bool.true_or] at this
    cases this
  · have hi := (List.getElem?_eq_some_iff.mp hy).1
    have := key i hi
    unfold badAt at this
    have e2 : rows.getD i (Str.ofString "") = y := by rw [List.getD_eq_getElem?_getD, hy]; rfl
    rw [e2] at this
    exact (Bool.or_eq_false_iff.mp this).2

end K17

-- text K17P11
set_option maxHeartbeats 8000000
namespace K17
open PySem PySem.Spec PyProof.Rows L2 Evl
variable {P : Program} {w : World} {K : PySem.W.Frag} {mg : Str → Option Value} {base : Heap} {d : Ad}
/-! ## load_library -/
def OkC (P : Program) (w : World) (K : PySem.W.Frag) (mg : Str → Option Value) (base : Heap) (k : Nat) (C : Addr) (x : Str) (ps : List Str) (sp : Sp) : Prop :=
  mg x = some (.ref C) ∧ ∃ (f : Addr) (fd : FuncData), Mk K C f ∧ Binds K fd ps [] ∧ FnOk P w K mg base CX0 k f fd ps sp
theorem pe_mkc {X : Cx} {x : Str} {p pos : Pos} {k : Nat} {C : Addr} {ps : List Str} {sp : Sp} {E : XK} {e : Expr} {es : List Expr} {t : TA} (F : OkC X.prog X.w X.K X.mg X.base k C x ps sp) (hr : Room (k + 1) X.A) (hx : Passes CX0 X E) (ha : PA X (e :: es) t)
    (hg : Gl X x := by rfl) (hdb : (x == ("__debug__" : Str)) = false := by decide) (he : starEach (e :: es) X.env = (false, eval e X.env) :: starEach es X.env := by rfl) (hpl : (backTo pos (starEach es X.env)).any (·.1) = false := by rfl) :
    PE X (.Call (.Name x p) (e :: es) [] pos) (tMake C sp [] E t) := by
  obtain ⟨hm, f, fd, M, hb, F⟩ := F
  exact pe_make M F hr hg hm hb .nil hx ha hdb he hpl
def MakeR (C : Addr) (sp : Sp) (E : XK) (vs : List V) (H1 : Hp) (Q : VK) : Prop := ∀ x dx, H1 x = none → H1 dx = none → dx ≠ x → sp (.ref x :: (vs ++ [])) (upd (upd H1 dx (.own x)) x (.ins C dx [])) (fun v H2 => v = .non ∧ Q (.ref x) H2) E
theorem tMake_eq {C : Addr} {sp : Sp} {E : XK} {t : TA} {σ : L2.St} {H : Hp} {Q : VK} : tMake C sp [] E t σ H Q = t σ H (fun vs H1 => MakeR C sp E vs H1 Q) := rfl
def PutR (D : Ends) (σ : L2.St) (v x y : V) (H3 : Hp) : Prop := ∃ (a : Addr) (H4 : Hp), x = .ref a ∧ DPut H3 a y v H4 ∧ D.nx σ H4
theorem sDPut_eq {td ty tv : TE} {D : Ends} {σ : L2.St} {H : Hp} : sDPut td ty tv D σ H = tv σ H (fun v H1 => td σ H1 fun x H2 => ty σ H2 fun y H3 => PutR D σ v x y H3) := rfl
theorem putR {D : Ends} {σ : L2.St} {v : V} {a : Addr} {y : Str} {H3 : Hp} {kvs : List (Key × V)} (h : H3 a = some (.dK kvs)) (hl : kvs.length < sizeLine) (q : D.nx σ (upd H3 a (.dK (putK kvs (Sum.inr y) v)))) : PutR D σ v (.ref a) (.str y) H3 := ⟨a, _, rfl, DPut.k (k := Sum.inr y) h hl, q⟩
def OtherV (K : PySem.W.Frag) (v : V) (H : Hp) : Prop := ∀ (H' : Hp) (Q : VK), Ex H H' → Q (.bl false) H' → rIsV K [v, .ty "str"] H' Q
/-- the wrong line, counted from 1; 0: not a text -/
def loadM (t : Str) : Option Nat := if rowsS t = [] then some 1 else match fwM (rowsS t) ((rowsS t).filterMap modS) ((rowsS t).length + 1) 0 0 (Str.ofString "") with
  | some i => some (i + 1)
  | none => if endS t = true then none else some (rowsS t).length
structure TextOk (t : Str) : Prop where
  sh : SH (tl t)
  len : t.length ≤ 1000000
theorem rows_sub {t : Str} {y : Str} (h : y ∈ rowsS t) : y ∈ linesS t := by
  unfold rowsS at h
  split at h
  · exact (List.dropLast_sublist _).subset h
  · exact h
theorem rows_ok {t : Str} (h : TextOk t) : ∀ y ∈ rowsS t, LineOk y := by
  intro y hy
  have h2 : tl y ∈ cut 10 (tl t) := by
    rw [← lines_tl]
    exact List.mem_map.mpr ⟨y, rows_sub hy, rfl⟩
  have hi := cut_infix 10 h2
  refine ⟨h.sh.sub hi, cut_free h2, ?_⟩
  have := hi.length_le
  have e1 : y.length = (tl y).length := TL.len_tl y
  have e2 : t.length = (tl t).length := TL.len_tl t
  have := h.len
  omega
theorem rows_len {t : Str} (h : TextOk t) : (rowsS t).length ≤ 1000001 := by
  have h1 := lines_len t
  have h2 := h.len
  unfold rowsS
  split
  · rw [List.length_dropLast]; omega
  · omega
def spLoad (K : PySem.W.Frag) (it lb : Addr) : Sp := fun vs H Q E => ∃ v : V, vs = [v] ∧ ((∃ t : Str, v = .str t ∧ TextOk t ∧ (loadM t = none → ∀ a ms H', Ex H H' → LibAt H' lb a ms → ms.map (fun m => (m.1, m.2.2)) = modsL (rowsS t) → Q (.ref a) H') ∧ ∀ n, loadM t = some n → RaisesIt it (n : Int) H E) ∨ (OtherV K v H ∧ RaisesIt it 0 H E))
theorem filt_mods (rows : List Str) : ((rows.filter fun y => (modS y).isSome).map fun y => optV (modS y)) = (rows.filterMap modS).map V.str := by
  induction rows with
  | nil => rfl
  | cons y r ih =>
    rw [List.filter_cons, List.filterMap_cons]
    cases hm : modS y with
    | none => simpa using ih
    | some m =>
      simp only [Option.isSome_some, if_true, List.map_cons, hm]
      rw [ih]
      rfl
theorem optV_non (o : Option Str) : (!decide (optV o = V.non)) = o.isSome := by cases o <;> simp [optV]
def fwT (t : Str) : Option Nat := fwM (rowsS t) ((rowsS t).filterMap modS) ((rowsS t).length + 1) 0 0 (Str.ofString "")
def wrongV (t : Str) : V := match fwT t with
  | some i => .int (i : Int)
  | none => if endS t = true then .non else .int (((rowsS t).length : Int) - 1)
theorem fw_lt {ys names : List Str} : ∀ (fu i c : Nat) (b : Str) (k : Nat), fwM ys names fu i c b = some k → k < ys.length := by
  intro fu
  induction fu with
  | zero => intro i c b k h; cases h
  | succ fu ih =>
    intro i c b k h
    by_cases hi : i < ys.length
    · have eg : ys.getD i (Str.ofString "") = ys[i] := by rw [List.getD_eq_getElem?_getD, List.getElem?_eq_getElem hi]; rfl
      have h1 : fwM ys names (fu + 1) i c b = (match modS ys[i] with
        | none => some i
        | some m => if (leS m b || decide (40 < c + 1)) = true then some i else
            match probS (blockS ys (i + 1)) names with
            | some k => some (i + 1 + k)
            | none => fwM ys names fu (i + 1 + (blockS ys (i + 1)).length) (c + 1) m) := by
        show (if i < ys.length then _ else none) = _
        rw [if_pos hi, eg]
        all_goals cases modS ys[i] with
        | none => rfl
        | some m => rfl
      rw [h1] at h
      cases hm : modS ys[i] with
      | none => rw [hm] at h; cases h; exact hi
      | some m =>
        rw [hm] at h
        have h2 : (if (leS m b || decide (40 < c + 1)) = true then some i else
            match probS (blockS ys (i + 1)) names with
            | some k => some (i + 1 + k)
            | none => fwM ys names fu (i + 1 + (blockS ys (i + 1)).length) (c + 1) m) = some k := h
        split at h2
        · cases h2; exact hi
        · cases hp : probS (blockS ys (i + 1)) names with
          | some j =>
            rw [hp] at h2
            have hj : j < (blockS ys (i + 1)).length := by
              unfold probS at hp
              exact List.mem_range.mp (List.mem_of_find?_eq_some hp)
            have hbl := block_len ys (i + 1)
            cases h2
            omega
          | none => rw [hp] at h2; exact ih _ _ _ _ h2
    · have h1 : fwM ys names (fu + 1) i c b = none := by
        show (if i < ys.length then _ else none) = _
        rw [if_neg hi]
      rw [h1] at h
      cases h
theorem names_mods (rows : List Str) : rows.filterMap modS = (modsL rows).map (·.1) := by
  induction rows with
  | nil => rfl
  | cons y r ih =>
    rw [List.filterMap_cons]
    cases hm : modS y with
    | none =>
      have e : modsL (y :: r) = modsL r := by
        show (match modS y with | some m => _ | none => modsL r) = _
        rw [hm]
      rw [e]
      exact ih
    | some m =>
      have e : modsL (y :: r) = (m, r.takeWhile indB) :: modsL r := by
        show (match modS y with | some m => (m, r.takeWhile indB) :: modsL r | none => _) = _
        rw [hm]
      rw [e, List.map_cons, ← ih]
theorem modsL_some {y m : Str} {r : List Str} (hm : modS y = some m) : modsL (y :: r) = (m, r.takeWhile indB) :: modsL r := by
  show (match modS y with | some m => (m, r.takeWhile indB) :: modsL r | none => _) = _
  rw [hm]
theorem modsL_none {y : Str} {r : List Str} (hm : modS y = none) : modsL (y :: r) = modsL r := by
  show (match modS y with | some m => _ | none => modsL r) = _
  rw [hm]
theorem ProgL.snoc {H : Hp} {xs : List V} {rows : List Str} {y : Str} {items : List V} {r : Addr} (p : ProgL H xs rows) (h1 : solM y = some items) (h2 : H r = some (.tup items)) : ProgL H (xs ++ [.ref r]) (rows ++ [y]) := by
  refine ⟨by rw [List.length_append, List.length_append, p.1]; rfl, fun i z hz => ?_⟩
  by_cases hi : i < rows.length
  · rw [List.getElem?_append_left hi] at hz
    obtain ⟨r2, it2, q1, q2, q3⟩ := p.2 i z hz
    exact ⟨r2, it2, by rw [List.getElem?_append_left (by rw [p.1]; exact hi)]; exact q1, q2, q3⟩
  · rw [List.getElem?_append_right (by omega)] at hz
    have hi2 : i - rows.length = 0 := by
      have := (List.getElem?_eq_some_iff.mp hz).1
      simp at this
      omega
    rw [hi2] at hz
    cases hz
    exact ⟨r, items, by rw [List.getElem?_append_right (by rw [p.1]; omega), p.1, hi2]; rfl, h1, h2⟩
theorem ProgL.upd {H : Hp} {D : Addr} {xs : List V} {rows : List Str} {o : HO} (p : ProgL H xs rows) (h : ∀ t, H D ≠ some (.tup t)) : ProgL (upd H D o) xs rows := ⟨p.1, fun i y hy => by
  obtain ⟨r, items, q1, q2, q3⟩ := p.2 i y hy
  exact ⟨r, items, q1, q2, by rw [upd_ne (fun z => h items (by rw [← z]; exact q3))]; exact q3⟩⟩
theorem lt_leT {a b : Str} (h : ltS a b) : leT a b := fun z => List.lt_irrefl _ (List.lt_trans h z)
theorem nmB_len {m : Str} (h : nmB m = true) : m.length ≤ 8 := by
  have e : m.length = (tl m).length := TL.len_tl m
  have h2 : (decide (1 ≤ (TL.tl m).length) && decide ((TL.tl m).length ≤ 8) && (TL.tl m).all lowB) = true := h
  simp only [Bool.and_eq_true, decide_eq_true_eq] at h2
  rw [e]
  exact h2.1.2
theorem o_load_library (T : Tx w K mg d) (F : Fd K mg "load_library" s_load_library []) (tI : Tit P w K mg base d.it) (o_split_lines : Ok0 P w K mg base 3 "split_lines" ["text"] spSplit) (o_module_of_line : Ok0 P w K mg base 4 "module_of_line" ["line"] spMol) (o_first_wrong : Ok0 P w K mg base 10 "first_wrong" ["lines", "known"] (spFirst K))
    (o_step_lines_after : Ok0 P w K mg base 3 "step_lines_after" ["lines", "index"] (spAfter K)) (o_step_of_line : Ok0 P w K mg base 8 "step_of_line" ["line"] spSol) (o_Library : OkC P w K mg base 10 d.lb "Library" ["self", "modules"] (spLInit d.lb)) :
    Ok P w K mg base (L2.CX P w) 12 "load_library" ["text"] (spLoad K d.it d.lb) := by
  refine mkOk 11 F sc_load_library (fun _ _ _ _ _ _ us hl => match us, hl with | [_], _ => rfl) (fun vs H Q E h => by obtain ⟨v, rfl, _⟩ := h; rfl) fun f cdv A outer s H vs Q E hr h => ?_
  obtain ⟨v, rfl, h⟩ := h
  refine ⟨_, (pss_cons (ps_if (pt_not (pt_val (pe_callB call_isV (by rfl) T.b_isinstance (by decide +kernel) (pa_cons (pv 0) (pa_cons (pe_bltn (v := .ty "str") (u := .type "str") (by rfl) T.b_str (by decide +kernel) rfl) pa_nil))))) (pss_one (ps_raise rfl (takes_of rfl rfl rfl rfl) (pmk_it tI (hr.mono (by decide)) (pa_cons pe_int pa_nil)))) pss_nil)
    (pss_cut (ps_asg (pe_c o_split_lines (hr.mono (by decide)) pass0 (pa_cons (pv 0) pa_nil)) (pg_two K (i := 1) (j := 2) sc_load_library.nd rfl rfl (.inl rfl) (.inl rfl) rfl))
    (pss_cons (ps_if (pt_cmpR (op_eqE hr.units0) (pv 1) (pe_lst pa_nil) (nomark _)) (pss_one (ps_raise rfl (takes_of rfl rfl rfl rfl) (pmk_it tI (hr.mono (by decide)) (pa_cons pe_int pa_nil)))) pss_nil)
    (pss_cut (ps_setLc (i := 3) (own := [("line", 7)]) rfl sc_load_library.nd rfl rfl (sw_true rfl rfl rfl (by decide +kernel)) (pi_list (pv 1)) (blkOk_by (own := [("line", 7)]) (N := n_load_library) (sc := defScope s_load_library) (by decide +kernel)) (fun _ _ _ _ _ => (pg_name (i := 7) sc_load_library.nd rfl (Or.inl rfl))) (fun _ _ _ _ _ => (pts_one (pt_cmpR op_notN (pe_c o_module_of_line (hr.mono (by decide)) pass0 (pa_cons (pv 7) pa_nil)) pe_non (nomark _)))) (fun _ _ _ _ _ => (pe_c o_module_of_line (hr.mono (by decide)) pass0 (pa_cons (pv 7) pa_nil))))
    (pss_cut (ps_set (i := 4) sc_load_library.nd rfl (.inl rfl) (pe_c o_first_wrong (hr.mono (by decide)) pass0 (pa_cons (pv 1) (pa_cons (pv 3) pa_nil))))
    (pss_cut (ps_if (PW.pt (pw_and (pt_cmpR op_isN (pv 4) pe_non (nomark _)) (pw_and1 (pt_not (pt_val (pv 2)))))) (pss_one (ps_set (i := 4) sc_load_library.nd rfl (.inl rfl) (pe_op op_sub (pe_callB call_len_seq (by rfl) T.b_len (by decide +kernel) (pa_cons (pv 1) pa_nil)) pe_int))) pss_nil)
    (pss_cut (ps_if (pt_cmpR op_notN (pv 4) pe_non (nomark _)) (pss_one (ps_raise rfl (takes_of rfl rfl rfl rfl) (pmk_it tI (hr.mono (by decide)) (pa_cons (pe_op op_add (pv 4) pe_int) pa_nil)))) pss_nil)
    (pss_cons (ps_set (i := 5) sc_load_library.nd rfl (.inl rfl) pe_dnewK)
    (pss_cut (ps_for (passes_of rfl) rfl (pi_enum (by rfl) T.b_enumerate (pa_cons (pv 1) pa_nil)) (pg_two K (i := 6) (j := 7) sc_load_library.nd rfl rfl (.inl rfl) (.inl rfl) rfl) (pss_cons (ps_set (i := 8) sc_load_library.nd rfl (.inl rfl) (pe_c o_module_of_line (hr.mono (by decide)) pass0 (pa_cons (pv 7) pa_nil)))
    (pss_one (ps_if (pt_cmpR op_notN (pv 8) pe_non (nomark _)) (pss_one (ps_dput (hu_of hr) (pv 5) (pv 8) (pe_lc (own := [("step", 9)]) rfl sc_load_library.nd (pi_list (pe_c o_step_lines_after (hr.mono (by decide)) pass0 (pa_cons (pv 1) (pa_cons (pv 6) pa_nil)))) (blkOk_by (own := [("step", 9)]) (N := n_load_library) (sc := defScope s_load_library) (by decide +kernel)) (fun _ _ _ _ _ => (pg_name (i := 9) sc_load_library.nd rfl (Or.inl rfl))) (fun _ _ _ _ _ => pts_nil) (fun _ _ _ _ _ => (pe_c o_step_of_line (hr.mono (by decide)) pass0 (pa_cons (pv 9) pa_nil)))) rfl)) pss_nil))))
    (pss_one (ps_ret (pe_mkc o_Library (hr.mono (by decide)) pass0 (pa_cons (pv 5) pa_nil))))))))))))), ?_⟩
  try simp only [tMkO_eq, n_load_library, L2.start, cxK, cxW, cxK', cxW', is_ss, is_si, is_ii, is_ib, is_is, is_bs, is_ns, is_ni, is_nt, Bool.not_false, Bool.not_true, tSeq, tIfS, tRet, tRetN, tNext, tNever, tAsg, gName, tVar, tC, tOp, tUn, tCons, tNil, tCB, tCall, tTest, tB, tAnd, tOr, tNot, tAndV, tOrV, tNotV, tIf, tChain, rI0, rI, rU, rEq, rNe, List.map_cons, List.map_nil, List.length_cons, List.length_nil, List.replicate, List.cons_append, List.nil_append, List.append_nil, List.getElem?_cons_zero, List.getElem?_cons_succ, List.set_cons_zero, List.set_cons_succ, Option.some.injEq, exists_eq_left', exists_eq_left, exists_eq_right, V.str.injEq, V.int.injEq, V.bl.injEq, V.ref.injEq, V.ty.injEq, List.cons.injEq, and_true, true_and, exists_and_left, Nat.zero_add, Nat.add_sub_cancel, Nat.sub_self, Nat.succ_sub_succ_eq_sub, Nat.reduceSub, Nat.reduceAdd, Nat.sub_zero, tYes, tSl, tPart, tNoPart, if_true, Bool.false_eq_true, if_false, reduceCtorEq, false_and, exists_false, or_false, false_or, scal, tLc_eq, tFor_eq, iStr, iList, iTup, RZ.iZipA, decide_false, decide_true, tM1, tM0, tDrop, tAug, ipI]
  rcases h with ⟨t, rfl, ht, hQ, hE⟩ | ⟨ho, hE⟩
  rotate_left
  · refine ho H _ (Ex.refl _) ⟨false, rfl, ?_⟩
    try simp only [is_ss, is_si, is_ii, is_ib, is_is, is_bs, is_ns, is_ni, is_nt, Bool.not_false, Bool.not_true, tSeq, tIfS, tRet, tRetN, tNext, tNever, tAsg, gName, tVar, tC, tOp, tUn, tCons, tNil, tCB, tCall, tTest, tB, tAnd, tOr, tNot, tAndV, tOrV, tNotV, tIf, tChain, rI0, rI, rU, rEq, rNe, List.map_cons, List.map_nil, List.length_cons, List.length_nil, List.replicate, List.cons_append, List.nil_append, List.append_nil, List.getElem?_cons_zero, List.getElem?_cons_succ, List.set_cons_zero, List.set_cons_succ, Option.some.injEq, exists_eq_left', exists_eq_left, exists_eq_right, V.str.injEq, V.int.injEq, V.bl.injEq, V.ref.injEq, V.ty.injEq, List.cons.injEq, and_true, true_and, exists_and_left, Nat.zero_add, Nat.add_sub_cancel, Nat.sub_self, Nat.succ_sub_succ_eq_sub, Nat.reduceSub, Nat.reduceAdd, Nat.sub_zero, tYes, tSl, tPart, tNoPart, if_true, Bool.false_eq_true, if_false, reduceCtorEq, false_and, exists_false, or_false, false_or, scal, tLc_eq, tFor_eq, iStr, iList, iTup, RZ.iZipA, decide_false, decide_true, tM1, tM0, tDrop, tAug, ipI]
    exact mkO_it (by decide) hE
  have hrl := rows_len ht
  have hrok := rows_ok ht
  have hlen := ht.len
  have hR : ∀ (n : Nat) H', loadM t = some n → n < 10 ^ 10 → Ex H H' → MkO d.it (spTI d.it) [V.int (n : Int)] H' fun cls d H' => E cls d H' := fun n H' hn hb e => mkO_it (by omega) fun dd H3 e3 h3 => hE n hn dd H3 (e.trans e3) h3
  try simp only [is_ss, is_si, is_ii, is_ib, is_is, is_bs, is_ns, is_ni, is_nt, Bool.not_false, Bool.not_true, tSeq, tIfS, tRet, tRetN, tNext, tNever, tAsg, gName, tVar, tC, tOp, tUn, tCons, tNil, tCB, tCall, tTest, tB, tAnd, tOr, tNot, tAndV, tOrV, tNotV, tIf, tChain, rI0, rI, rU, rEq, rNe, List.map_cons, List.map_nil, List.length_cons, List.length_nil, List.replicate, List.cons_append, List.nil_append, List.append_nil, List.getElem?_cons_zero, List.getElem?_cons_succ, List.set_cons_zero, List.set_cons_succ, Option.some.injEq, exists_eq_left', exists_eq_left, exists_eq_right, V.str.injEq, V.int.injEq, V.bl.injEq, V.ref.injEq, V.ty.injEq, List.cons.injEq, and_true, true_and, exists_and_left, Nat.zero_add, Nat.add_sub_cancel, Nat.sub_self, Nat.succ_sub_succ_eq_sub, Nat.reduceSub, Nat.reduceAdd, Nat.sub_zero, tYes, tSl, tPart, tNoPart, if_true, Bool.false_eq_true, if_false, reduceCtorEq, false_and, exists_false, or_false, false_or, scal, tLc_eq, tFor_eq, iStr, iList, iTup, RZ.iZipA, decide_false, decide_true, tM1, tM0, tDrop, tAug, ipI]
  -- lines, is_ended
  refine ⟨fun σ' H' => ∃ lp, σ' = [some (V.str t), some (V.ref lp), some (V.bl (endS t)), none, none, none, none, none, none, none] ∧ Ex H H' ∧ H' lp = some (.lst ((rowsS t).map V.str)), ?_, ?_⟩
  · try simp only [is_ss, is_si, is_ii, is_ib, is_is, is_bs, is_ns, is_ni, is_nt, Bool.not_false, Bool.not_true, tSeq, tIfS, tRet, tRetN, tNext, tNever, tAsg, gName, tVar, tC, tOp, tUn, tCons, tNil, tCB, tCall, tTest, tB, tAnd, tOr, tNot, tAndV, tOrV, tNotV, tIf, tChain, rI0, rI, rU, rEq, rNe, List.map_cons, List.map_nil, List.length_cons, List.length_nil, List.replicate, List.cons_append, List.nil_append, List.append_nil, List.getElem?_cons_zero, List.getElem?_cons_succ, List.set_cons_zero, List.set_cons_succ, Option.some.injEq, exists_eq_left', exists_eq_left, exists_eq_right, V.str.injEq, V.int.injEq, V.bl.injEq, V.ref.injEq, V.ty.injEq, List.cons.injEq, and_true, true_and, exists_and_left, Nat.zero_add, Nat.add_sub_cancel, Nat.sub_self, Nat.succ_sub_succ_eq_sub, Nat.reduceSub, Nat.reduceAdd, Nat.sub_zero, tYes, tSl, tPart, tNoPart, if_true, Bool.false_eq_true, if_false, reduceCtorEq, false_and, exists_false, or_false, false_or, scal, tLc_eq, tFor_eq, iStr, iList, iTup, RZ.iZipA, decide_false, decide_true, tM1, tM0, tDrop, tAug, ipI]
    refine ⟨t, rfl, by omega, fun p q H1 hp e1 h1 h2 => ?_⟩
    try simp only [gTup, gCons, gNil, is_ss, is_si, is_ii, is_ib, is_is, is_bs, is_ns, is_ni, is_nt, Bool.not_false, Bool.not_true, tSeq, tIfS, tRet, tRetN, tNext, tNever, tAsg, gName, tVar, tC, tOp, tUn, tCons, tNil, tCB, tCall, tTest, tB, tAnd, tOr, tNot, tAndV, tOrV, tNotV, tIf, tChain, rI0, rI, rU, rEq, rNe, List.map_cons, List.map_nil, List.length_cons, List.length_nil, List.replicate, List.cons_append, List.nil_append, List.append_nil, List.getElem?_cons_zero, List.getElem?_cons_succ, List.set_cons_zero, List.set_cons_succ, Option.some.injEq, exists_eq_left', exists_eq_left, exists_eq_right, V.str.injEq, V.int.injEq, V.bl.injEq, V.ref.injEq, V.ty.injEq, List.cons.injEq, and_true, true_and, exists_and_left, Nat.zero_add, Nat.add_sub_cancel, Nat.sub_self, Nat.succ_sub_succ_eq_sub, Nat.reduceSub, Nat.reduceAdd, Nat.sub_zero, tYes, tSl, tPart, tNoPart, if_true, Bool.false_eq_true, if_false, reduceCtorEq, false_and, exists_false, or_false, false_or, scal, tLc_eq, tFor_eq, iStr, iList, iTup, RZ.iZipA, decide_false, decide_true, tM1, tM0, tDrop, tAug, ipI]
    refine ⟨_, SqT.of h2, rfl, _, _, rfl, _, _, rfl, rfl, ?_⟩
    exact ⟨p, ⟨rfl, rfl⟩, e1, h1⟩
  · rintro σ' H1 ⟨lp, rfl, e1, h1⟩
    try simp only [tLst, is_ss, is_si, is_ii, is_ib, is_is, is_bs, is_ns, is_ni, is_nt, Bool.not_false, Bool.not_true, tSeq, tIfS, tRet, tRetN, tNext, tNever, tAsg, gName, tVar, tC, tOp, tUn, tCons, tNil, tCB, tCall, tTest, tB, tAnd, tOr, tNot, tAndV, tOrV, tNotV, tIf, tChain, rI0, rI, rU, rEq, rNe, List.map_cons, List.map_nil, List.length_cons, List.length_nil, List.replicate, List.cons_append, List.nil_append, List.append_nil, List.getElem?_cons_zero, List.getElem?_cons_succ, List.set_cons_zero, List.set_cons_succ, Option.some.injEq, exists_eq_left', exists_eq_left, exists_eq_right, V.str.injEq, V.int.injEq, V.bl.injEq, V.ref.injEq, V.ty.injEq, List.cons.injEq, and_true, true_and, exists_and_left, Nat.zero_add, Nat.add_sub_cancel, Nat.sub_self, Nat.succ_sub_succ_eq_sub, Nat.reduceSub, Nat.reduceAdd, Nat.sub_zero, tYes, tSl, tPart, tNoPart, if_true, Bool.false_eq_true, if_false, reduceCtorEq, false_and, exists_false, or_false, false_or, scal, tLc_eq, tFor_eq, iStr, iList, iTup, RZ.iZipA, decide_false, decide_true, tM1, tM0, tDrop, tAug, ipI]
    refine ⟨Nat.zero_le _, fun p hp => ?_⟩
    have e2 : Ex H1 (upd H1 p (.lst [])) := Ex.new hp
    refine ⟨lp, p, _, rfl, rfl, SqL.of (e2 lp _ h1), SqL.of upd_same, (rowsS t).isEmpty, by simp, ?_⟩
    by_cases hne : rowsS t = []
    · rw [if_pos (by rw [hne]; rfl)]
      exact hR 1 _ (by unfold loadM; rw [if_pos hne]) (by decide) (e1.trans e2)
    rw [if_neg (by rw [List.isEmpty_iff]; exact hne)]
    have h2l := e2 lp _ h1
    have e12 := e1.trans e2
    obtain ⟨H2, hH2⟩ : ∃ H2, H2 = upd H1 p (.lst []) := ⟨_, rfl⟩
    rw [← hH2] at h2l e12 ⊢
    have hlm : loadM t = match fwT t with | some i => some (i + 1) | none => if endS t = true then none else some (rowsS t).length := by
      unfold loadM fwT
      rw [if_neg hne]
    -- known
    refine ⟨fun σ' H' => ∃ kn, σ' = [some (V.str t), some (V.ref lp), some (V.bl (endS t)), some (V.ref kn), none, none, none, none, none, none] ∧ Ex H H' ∧ H' lp = some (.lst ((rowsS t).map V.str)) ∧ H' kn = some (.lst (((rowsS t).filterMap modS).map V.str)), ?_, ?_⟩
    · try simp only [is_ss, is_si, is_ii, is_ib, is_is, is_bs, is_ns, is_ni, is_nt, Bool.not_false, Bool.not_true, tSeq, tIfS, tRet, tRetN, tNext, tNever, tAsg, gName, tVar, tC, tOp, tUn, tCons, tNil, tCB, tCall, tTest, tB, tAnd, tOr, tNot, tAndV, tOrV, tNotV, tIf, tChain, rI0, rI, rU, rEq, rNe, List.map_cons, List.map_nil, List.length_cons, List.length_nil, List.replicate, List.cons_append, List.nil_append, List.append_nil, List.getElem?_cons_zero, List.getElem?_cons_succ, List.set_cons_zero, List.set_cons_succ, Option.some.injEq, exists_eq_left', exists_eq_left, exists_eq_right, V.str.injEq, V.int.injEq, V.bl.injEq, V.ref.injEq, V.ty.injEq, List.cons.injEq, and_true, true_and, exists_and_left, Nat.zero_add, Nat.add_sub_cancel, Nat.sub_self, Nat.succ_sub_succ_eq_sub, Nat.reduceSub, Nat.reduceAdd, Nat.sub_zero, tYes, tSl, tPart, tNoPart, if_true, Bool.false_eq_true, if_false, reduceCtorEq, false_and, exists_false, or_false, false_or, scal, tLc_eq, tFor_eq, iStr, iList, iTup, RZ.iZipA, decide_false, decide_true, tM1, tM0, tDrop, tAug, ipI]
      refine ⟨⟨_, SqL.of h2l⟩, ?_⟩
      refine lcM (gv := V.str) (goes_list (xs := (rowsS t).map V.str) (small (by rw [List.length_map]; omega))) (fun H3 e => ex_l e (SqL.of h2l)) (fun y => (modS y).isSome) (fun y => optV (modS y)) (fun y hy H3 e Q' q' => ?_) (fun y hy _ H3 e Q' q' => ?_) (fun D H3 hD e h3 => ?_) (fun _ => rfl)
      · try simp only [wipe, is_ss, is_si, is_ii, is_ib, is_is, is_bs, is_ns, is_ni, is_nt, Bool.not_false, Bool.not_true, tSeq, tIfS, tRet, tRetN, tNext, tNever, tAsg, gName, tVar, tC, tOp, tUn, tCons, tNil, tCB, tCall, tTest, tB, tAnd, tOr, tNot, tAndV, tOrV, tNotV, tIf, tChain, rI0, rI, rU, rEq, rNe, List.map_cons, List.map_nil, List.length_cons, List.length_nil, List.replicate, List.cons_append, List.nil_append, List.append_nil, List.getElem?_cons_zero, List.getElem?_cons_succ, List.set_cons_zero, List.set_cons_succ, Option.some.injEq, exists_eq_left', exists_eq_left, exists_eq_right, V.str.injEq, V.int.injEq, V.bl.injEq, V.ref.injEq, V.ty.injEq, List.cons.injEq, and_true, true_and, exists_and_left, Nat.zero_add, Nat.add_sub_cancel, Nat.sub_self, Nat.succ_sub_succ_eq_sub, Nat.reduceSub, Nat.reduceAdd, Nat.sub_zero, tYes, tSl, tPart, tNoPart, if_true, Bool.false_eq_true, if_false, reduceCtorEq, false_and, exists_false, or_false, false_or, scal, tLc_eq, tFor_eq, iStr, iList, iTup, RZ.iZipA, decide_false, decide_true, tM1, tM0, tDrop, tAug, ipI]
        refine ⟨y, rfl, by have := (hrok y hy).len; omega, fun H4 e4 => ?_⟩
        try simp only [is_ss, is_si, is_ii, is_ib, is_is, is_bs, is_ns, is_ni, is_nt, Bool.not_false, Bool.not_true, tSeq, tIfS, tRet, tRetN, tNext, tNever, tAsg, gName, tVar, tC, tOp, tUn, tCons, tNil, tCB, tCall, tTest, tB, tAnd, tOr, tNot, tAndV, tOrV, tNotV, tIf, tChain, rI0, rI, rU, rEq, rNe, List.map_cons, List.map_nil, List.length_cons, List.length_nil, List.replicate, List.cons_append, List.nil_append, List.append_nil, List.getElem?_cons_zero, List.getElem?_cons_succ, List.set_cons_zero, List.set_cons_succ, Option.some.injEq, exists_eq_left', exists_eq_left, exists_eq_right, V.str.injEq, V.int.injEq, V.bl.injEq, V.ref.injEq, V.ty.injEq, List.cons.injEq, and_true, true_and, exists_and_left, Nat.zero_add, Nat.add_sub_cancel, Nat.sub_self, Nat.succ_sub_succ_eq_sub, Nat.reduceSub, Nat.reduceAdd, Nat.sub_zero, tYes, tSl, tPart, tNoPart, if_true, Bool.false_eq_true, if_false, reduceCtorEq, false_and, exists_false, or_false, false_or, scal, tLc_eq, tFor_eq, iStr, iList, iTup, RZ.iZipA, decide_false, decide_true, tM1, tM0, tDrop, tAug, ipI]
        rw [optV_non]
        exact q' H4 e4
      · try simp only [wipe, is_ss, is_si, is_ii, is_ib, is_is, is_bs, is_ns, is_ni, is_nt, Bool.not_false, Bool.not_true, tSeq, tIfS, tRet, tRetN, tNext, tNever, tAsg, gName, tVar, tC, tOp, tUn, tCons, tNil, tCB, tCall, tTest, tB, tAnd, tOr, tNot, tAndV, tOrV, tNotV, tIf, tChain, rI0, rI, rU, rEq, rNe, List.map_cons, List.map_nil, List.length_cons, List.length_nil, List.replicate, List.cons_append, List.nil_append, List.append_nil, List.getElem?_cons_zero, List.getElem?_cons_succ, List.set_cons_zero, List.set_cons_succ, Option.some.injEq, exists_eq_left', exists_eq_left, exists_eq_right, V.str.injEq, V.int.injEq, V.bl.injEq, V.ref.injEq, V.ty.injEq, List.cons.injEq, and_true, true_and, exists_and_left, Nat.zero_add, Nat.add_sub_cancel, Nat.sub_self, Nat.succ_sub_succ_eq_sub, Nat.reduceSub, Nat.reduceAdd, Nat.sub_zero, tYes, tSl, tPart, tNoPart, if_true, Bool.false_eq_true, if_false, reduceCtorEq, false_and, exists_false, or_false, false_or, scal, tLc_eq, tFor_eq, iStr, iList, iTup, RZ.iZipA, decide_false, decide_true, tM1, tM0, tDrop, tAug, ipI]
        exact ⟨y, rfl, by have := (hrok y hy).len; omega, q'⟩
      · rw [filt_mods] at h3
        exact ⟨D, rfl, e12.trans e, e lp _ h2l, h3⟩
    rintro σ' H3 ⟨kn, rfl, e3, h3l, h3k⟩
    -- wrong
    refine ⟨fun σ' H' => σ' = [some (V.str t), some (V.ref lp), some (V.bl (endS t)), some (V.ref kn), some (optI (fwT t)), none, none, none, none, none] ∧ Ex H H' ∧ H' lp = some (.lst ((rowsS t).map V.str)), ?_, ?_⟩
    · try simp only [is_ss, is_si, is_ii, is_ib, is_is, is_bs, is_ns, is_ni, is_nt, Bool.not_false, Bool.not_true, tSeq, tIfS, tRet, tRetN, tNext, tNever, tAsg, gName, tVar, tC, tOp, tUn, tCons, tNil, tCB, tCall, tTest, tB, tAnd, tOr, tNot, tAndV, tOrV, tNotV, tIf, tChain, rI0, rI, rU, rEq, rNe, List.map_cons, List.map_nil, List.length_cons, List.length_nil, List.replicate, List.cons_append, List.nil_append, List.append_nil, List.getElem?_cons_zero, List.getElem?_cons_succ, List.set_cons_zero, List.set_cons_succ, Option.some.injEq, exists_eq_left', exists_eq_left, exists_eq_right, V.str.injEq, V.int.injEq, V.bl.injEq, V.ref.injEq, V.ty.injEq, List.cons.injEq, and_true, true_and, exists_and_left, Nat.zero_add, Nat.add_sub_cancel, Nat.sub_self, Nat.succ_sub_succ_eq_sub, Nat.reduceSub, Nat.reduceAdd, Nat.sub_zero, tYes, tSl, tPart, tNoPart, if_true, Bool.false_eq_true, if_false, reduceCtorEq, false_and, exists_false, or_false, false_or, scal, tLc_eq, tFor_eq, iStr, iList, iTup, RZ.iZipA, decide_false, decide_true, tM1, tM0, tDrop, tAug, ipI]
      exact ⟨lp, kn, rowsS t, _, rfl, SqL.of h3l, SqL.of h3k, hrok, by omega, fun H4 e4 => ⟨rfl, e3.trans e4, e4 lp _ h3l⟩⟩
    rintro σ' H4 ⟨rfl, e4, h4l⟩
    refine ⟨fun σ' H' => σ' = [some (V.str t), some (V.ref lp), some (V.bl (endS t)), some (V.ref kn), some (wrongV t), none, none, none, none, none] ∧ Ex H H' ∧ H' lp = some (.lst ((rowsS t).map V.str)), ?_, ?_⟩
    · try simp only [is_ss, is_si, is_ii, is_ib, is_is, is_bs, is_ns, is_ni, is_nt, Bool.not_false, Bool.not_true, tSeq, tIfS, tRet, tRetN, tNext, tNever, tAsg, gName, tVar, tC, tOp, tUn, tCons, tNil, tCB, tCall, tTest, tB, tAnd, tOr, tNot, tAndV, tOrV, tNotV, tIf, tChain, rI0, rI, rU, rEq, rNe, List.map_cons, List.map_nil, List.length_cons, List.length_nil, List.replicate, List.cons_append, List.nil_append, List.append_nil, List.getElem?_cons_zero, List.getElem?_cons_succ, List.set_cons_zero, List.set_cons_succ, Option.some.injEq, exists_eq_left', exists_eq_left, exists_eq_right, V.str.injEq, V.int.injEq, V.bl.injEq, V.ref.injEq, V.ty.injEq, List.cons.injEq, and_true, true_and, exists_and_left, Nat.zero_add, Nat.add_sub_cancel, Nat.sub_self, Nat.succ_sub_succ_eq_sub, Nat.reduceSub, Nat.reduceAdd, Nat.sub_zero, tYes, tSl, tPart, tNoPart, if_true, Bool.false_eq_true, if_false, reduceCtorEq, false_and, exists_false, or_false, false_or, scal, tLc_eq, tFor_eq, iStr, iList, iTup, RZ.iZipA, decide_false, decide_true, tM1, tM0, tDrop, tAug, ipI]
      unfold wrongV
      cases hf : fwT t with
      | some i =>
        rw [if_neg (by simp [optI])]
        exact ⟨rfl, e4, h4l⟩
      | none =>
        rw [if_pos (by rfl)]
        cases he : endS t with
        | true => exact ⟨rfl, e4, h4l⟩
        | false =>
          refine ⟨_, .inl (SqL.of h4l), ?_⟩
          rw [List.length_map]
          exact ⟨rfl, e4, h4l⟩
    rintro σ' H5 ⟨rfl, e5, h5l⟩
    refine ⟨fun σ' H' => loadM t = none ∧ σ' = [some (V.str t), some (V.ref lp), some (V.bl (endS t)), some (V.ref kn), some (wrongV t), none, none, none, none, none] ∧ Ex H H' ∧ H' lp = some (.lst ((rowsS t).map V.str)), ?_, ?_⟩
    · try simp only [is_ss, is_si, is_ii, is_ib, is_is, is_bs, is_ns, is_ni, is_nt, Bool.not_false, Bool.not_true, tSeq, tIfS, tRet, tRetN, tNext, tNever, tAsg, gName, tVar, tC, tOp, tUn, tCons, tNil, tCB, tCall, tTest, tB, tAnd, tOr, tNot, tAndV, tOrV, tNotV, tIf, tChain, rI0, rI, rU, rEq, rNe, List.map_cons, List.map_nil, List.length_cons, List.length_nil, List.replicate, List.cons_append, List.nil_append, List.append_nil, List.getElem?_cons_zero, List.getElem?_cons_succ, List.set_cons_zero, List.set_cons_succ, Option.some.injEq, exists_eq_left', exists_eq_left, exists_eq_right, V.str.injEq, V.int.injEq, V.bl.injEq, V.ref.injEq, V.ty.injEq, List.cons.injEq, and_true, true_and, exists_and_left, Nat.zero_add, Nat.add_sub_cancel, Nat.sub_self, Nat.succ_sub_succ_eq_sub, Nat.reduceSub, Nat.reduceAdd, Nat.sub_zero, tYes, tSl, tPart, tNoPart, if_true, Bool.false_eq_true, if_false, reduceCtorEq, false_and, exists_false, or_false, false_or, scal, tLc_eq, tFor_eq, iStr, iList, iTup, RZ.iZipA, decide_false, decide_true, tM1, tM0, tDrop, tAug, ipI]
      cases hf : fwT t with
      | some i =>
        have hw : wrongV t = .int (i : Int) := by unfold wrongV; rw [hf]
        rw [hw, if_pos (by simp)]
        refine ⟨_, rfl, ?_⟩
        have hi := fw_lt _ _ _ _ _ hf
        exact hR (i + 1) H5 (by rw [hlm, hf]) (by omega) e5
      | none =>
        cases he : endS t with
        | true =>
          have hw : wrongV t = .non := by unfold wrongV; rw [hf, he]; rfl
          rw [hw, if_neg (by simp)]
          exact ⟨by rw [hlm, hf, he]; rfl, e5, h5l⟩
        | false =>
          have hw : wrongV t = .int (((rowsS t).length : Int) - 1) := by unfold wrongV; rw [hf, he]; rfl
          rw [hw, if_pos (by simp)]
          refine ⟨_, rfl, ?_⟩
          have q := hR (rowsS t).length H5 (by rw [hlm, hf, he]; rfl) (by omega) e5
          rw [show ((rowsS t).length : Int) - 1 + 1 = ((rowsS t).length : Int) by omega]
          exact q
    rintro σ' H6 ⟨hnone, rfl, e6, h6l⟩
    try simp only [tDNewK, tMake_eq, is_ss, is_si, is_ii, is_ib, is_is, is_bs, is_ns, is_ni, is_nt, Bool.not_false, Bool.not_true, tSeq, tIfS, tRet, tRetN, tNext, tNever, tAsg, gName, tVar, tC, tOp, tUn, tCons, tNil, tCB, tCall, tTest, tB, tAnd, tOr, tNot, tAndV, tOrV, tNotV, tIf, tChain, rI0, rI, rU, rEq, rNe, List.map_cons, List.map_nil, List.length_cons, List.length_nil, List.replicate, List.cons_append, List.nil_append, List.append_nil, List.getElem?_cons_zero, List.getElem?_cons_succ, List.set_cons_zero, List.set_cons_succ, Option.some.injEq, exists_eq_left', exists_eq_left, exists_eq_right, V.str.injEq, V.int.injEq, V.bl.injEq, V.ref.injEq, V.ty.injEq, List.cons.injEq, and_true, true_and, exists_and_left, Nat.zero_add, Nat.add_sub_cancel, Nat.sub_self, Nat.succ_sub_succ_eq_sub, Nat.reduceSub, Nat.reduceAdd, Nat.sub_zero, tYes, tSl, tPart, tNoPart, if_true, Bool.false_eq_true, if_false, reduceCtorEq, false_and, exists_false, or_false, false_or, scal, tLc_eq, tFor_eq, iStr, iList, iTup, RZ.iZipA, decide_false, decide_true, tM1, tM0, tDrop, tAug, ipI]
    intro e he
    obtain ⟨H7, hH7⟩ : ∃ H7, H7 = upd H6 e (.dK []) := ⟨_, rfl⟩
    have e67 : Ex H6 H7 := by rw [hH7]; exact Ex.new he
    have h7e : H7 e = some (.dK []) := by rw [hH7, upd_same]
    have h7l := e67 lp _ h6l
    rw [← hH7]
    have hfw : fwT t = none ∧ endS t = true := by
      rw [hlm] at hnone
      cases hf : fwT t with
      | some i => rw [hf] at hnone; cases hnone
      | none =>
        rw [hf] at hnone
        cases he : endS t with
        | true => exact ⟨rfl, rfl⟩
        | false => rw [he] at hnone; cases hnone
    obtain ⟨f1, f2, f3, f4, f5, f6⟩ := fw_none _ 0 0 _ hfw.1 (by omega) (by decide)
    rw [List.drop_zero] at f1 f2 f3 f4 f5 f6
    have hnames := names_mods (rowsS t)
    have hnd : ((modsL (rowsS t)).map (·.1)).Nodup := by
      rw [List.nodup_iff_pairwise_ne, List.pairwise_map]
      exact f3.imp fun {a b} (h : ltS a.1 b.1) => (fun z => by
        rw [z] at h
        exact List.lt_irrefl _ h : a.1 ≠ b.1)
    refine ⟨fun σ' H' => (∃ u v z, σ' = [some (V.str t), some (V.ref lp), some (V.bl (endS t)), some (V.ref kn), some (wrongV t), some (V.ref e), u, v, z, none]) ∧ Ex H6 H' ∧ ∃ ms, ModsAt H' e ms false ∧ ms.map (fun m => (m.1, m.2.2)) = modsL (rowsS t), ?_, ?_⟩
    · try simp only [iEnum, is_ss, is_si, is_ii, is_ib, is_is, is_bs, is_ns, is_ni, is_nt, Bool.not_false, Bool.not_true, tSeq, tIfS, tRet, tRetN, tNext, tNever, tAsg, gName, tVar, tC, tOp, tUn, tCons, tNil, tCB, tCall, tTest, tB, tAnd, tOr, tNot, tAndV, tOrV, tNotV, tIf, tChain, rI0, rI, rU, rEq, rNe, List.map_cons, List.map_nil, List.length_cons, List.length_nil, List.replicate, List.cons_append, List.nil_append, List.append_nil, List.getElem?_cons_zero, List.getElem?_cons_succ, List.set_cons_zero, List.set_cons_succ, Option.some.injEq, exists_eq_left', exists_eq_left, exists_eq_right, V.str.injEq, V.int.injEq, V.bl.injEq, V.ref.injEq, V.ty.injEq, List.cons.injEq, and_true, true_and, exists_and_left, Nat.zero_add, Nat.add_sub_cancel, Nat.sub_self, Nat.succ_sub_succ_eq_sub, Nat.reduceSub, Nat.reduceAdd, Nat.sub_zero, tYes, tSl, tPart, tNoPart, if_true, Bool.false_eq_true, if_false, reduceCtorEq, false_and, exists_false, or_false, false_or, scal, tLc_eq, tFor_eq, iStr, iList, iTup, RZ.iZipA, decide_false, decide_true, tM1, tM0, tDrop, tAug, ipI]
      refine ⟨_, SqL.of h7l, ?_⟩
      obtain ⟨Pv, hPv⟩ : ∃ P0 : Nat → L2.St → Hp → Prop, ∀ i σ' H', P0 i σ' H' ↔ ((∃ u v z, σ' = [some (V.str t), some (V.ref lp), some (V.bl (endS t)), some (V.ref kn), some (wrongV t), some (V.ref e), u, v, z, none]) ∧ Ex H6 H' ∧ ∃ ms, ModsAt H' e ms false ∧ ms.map (fun m => (m.1, m.2.2)) ++ modsL ((rowsS t).drop i) = modsL (rowsS t)) := ⟨_, fun _ _ _ => Iff.rfl⟩
      refine forP (goes_enum (xs := (rowsS t).map V.str) (small (by rw [List.length_map]; omega))) Pv ((hPv _ _ _).mpr ⟨⟨_, _, _, rfl⟩, e67, [], ⟨h7e, fun m hm => by cases hm⟩, by rw [List.drop_zero]; rfl⟩) (fun i σ' H' q => SqL.of (((hPv _ _ _).mp q).2.1 lp _ h6l)) ?_ ?_
      · intro i σ' H' H8 hi hq e8
        obtain ⟨⟨u, v, z, rfl⟩, e9, ms, ⟨hd1, hd2⟩, hms⟩ := (hPv _ _ _).mp hq
        rw [List.length_map] at hi
        have hii : ((rowsS t).map V.str)[i]? = some (V.str (rowsS t)[i]) := by simp [hi]
        have hdi : (rowsS t).drop i = (rowsS t)[i] :: (rowsS t).drop (i + 1) := List.drop_eq_getElem_cons hi
        rw [hii]
        try simp only [sDPut_eq, is_ss, is_si, is_ii, is_ib, is_is, is_bs, is_ns, is_ni, is_nt, Bool.not_false, Bool.not_true, tSeq, tIfS, tRet, tRetN, tNext, tNever, tAsg, gName, tVar, tC, tOp, tUn, tCons, tNil, tCB, tCall, tTest, tB, tAnd, tOr, tNot, tAndV, tOrV, tNotV, tIf, tChain, rI0, rI, rU, rEq, rNe, List.map_cons, List.map_nil, List.length_cons, List.length_nil, List.replicate, List.cons_append, List.nil_append, List.append_nil, List.getElem?_cons_zero, List.getElem?_cons_succ, List.set_cons_zero, List.set_cons_succ, Option.some.injEq, exists_eq_left', exists_eq_left, exists_eq_right, V.str.injEq, V.int.injEq, V.bl.injEq, V.ref.injEq, V.ty.injEq, List.cons.injEq, and_true, true_and, exists_and_left, Nat.zero_add, Nat.add_sub_cancel, Nat.sub_self, Nat.succ_sub_succ_eq_sub, Nat.reduceSub, Nat.reduceAdd, Nat.sub_zero, tYes, tSl, tPart, tNoPart, if_true, Bool.false_eq_true, if_false, reduceCtorEq, false_and, exists_false, or_false, false_or, scal, tLc_eq, tFor_eq, iStr, iList, iTup, RZ.iZipA, decide_false, decide_true, tM1, tM0, tDrop, tAug, ipI]
        refine ⟨(rowsS t)[i], rfl, by have := (hrok _ (List.getElem_mem hi)).len; omega, fun H9 e10 => ?_⟩
        have e11 := (e9.trans e8).trans e10
        have hd1' := (e8.trans e10) e _ hd1
        have hd2' : ∀ m ∈ ms, ∃ xs : List V, H9 m.2.1 = some (.lst xs) ∧ ProgL H9 xs m.2.2 := fun m hm => let ⟨xs, q1, q2⟩ := hd2 m hm; ⟨xs, (e8.trans e10) _ _ q1, q2.mono (e8.trans e10)⟩
        cases hm : modS (rowsS t)[i] with
        | none =>
          show (if (!decide (V.non = V.non)) = true then _ else _)
          rw [if_neg (by simp)]
          refine (hPv _ _ _).mpr ⟨⟨_, _, _, rfl⟩, e11, ms, ⟨hd1', hd2'⟩, ?_⟩
          rw [hdi, modsL_none hm] at hms
          exact hms
        | some m =>
          show (if (!decide (V.str m = V.non)) = true then _ else _)
          rw [if_pos (by simp)]
          rw [hdi, modsL_some hm] at hms
          have hblk : ((rowsS t).drop (i + 1)).takeWhile indB = blockS (rowsS t) (i + 1) := rfl
          rw [hblk] at hms
          have hmem : (m, blockS (rowsS t) (i + 1)) ∈ modsL (rowsS t) := by rw [← hms]; exact List.mem_append_right _ List.mem_cons_self
          obtain ⟨hp30, hpw⟩ := prob_ok (f4 _ hmem).1
          have hbok : ∀ y ∈ blockS (rowsS t) (i + 1), LineOk y := fun y hy => hrok y (block_mem hy)
          have hp30' : (blockS (rowsS t) (i + 1)).length ≤ 30 := hp30
          have hnotin : m ∉ ms.map (·.1) := by
            intro z
            have hn2 := hnd
            rw [← hms, List.map_append, List.map_map] at hn2
            exact (List.nodup_append.mp hn2).2.2 m z m (by rw [List.map_cons]; exact List.mem_cons_self) rfl
          refine ⟨lp, rowsS t, i, rfl, SqL.of (e11 lp _ h6l), hi, by omega, fun p H10 hp e12 h10 => ⟨p, rfl, ⟨_, SqL.of h10⟩, ?_⟩⟩
          refine lcP (goes_list (xs := (blockS (rowsS t) (i + 1)).map V.str) (small (by rw [List.length_map]; omega))) (fun _ _ => rfl) (fun D j acc H' => Ex H10 H' ∧ H10 D = none ∧ ProgL H' acc ((blockS (rowsS t) (i + 1)).take j))
            (fun D hD => ⟨Ex.new hD, hD, rfl, fun j y hy => by simp at hy⟩) (fun D j acc H' q => SqL.of (q.1 p _ h10)) (fun D j acc H1 H2 e q => ⟨q.1.trans e, q.2.1, q.2.2.mono e⟩) ?_ ?_
          · rintro D j acc H' hj ⟨x1, x2, x3⟩ hacc hal hal2
            rw [List.length_map] at hj
            have hjj : ((blockS (rowsS t) (i + 1)).map V.str)[j]? = some (V.str (blockS (rowsS t) (i + 1))[j]) := by simp [hj]
            have hyj : (blockS (rowsS t) (i + 1))[j]? = some (blockS (rowsS t) (i + 1))[j] := by simp [hj]
            rw [hjj]
            try simp only [wipe, is_ss, is_si, is_ii, is_ib, is_is, is_bs, is_ns, is_ni, is_nt, Bool.not_false, Bool.not_true, tSeq, tIfS, tRet, tRetN, tNext, tNever, tAsg, gName, tVar, tC, tOp, tUn, tCons, tNil, tCB, tCall, tTest, tB, tAnd, tOr, tNot, tAndV, tOrV, tNotV, tIf, tChain, rI0, rI, rU, rEq, rNe, List.map_cons, List.map_nil, List.length_cons, List.length_nil, List.replicate, List.cons_append, List.nil_append, List.append_nil, List.getElem?_cons_zero, List.getElem?_cons_succ, List.set_cons_zero, List.set_cons_succ, Option.some.injEq, exists_eq_left', exists_eq_left, exists_eq_right, V.str.injEq, V.int.injEq, V.bl.injEq, V.ref.injEq, V.ty.injEq, List.cons.injEq, and_true, true_and, exists_and_left, Nat.zero_add, Nat.add_sub_cancel, Nat.sub_self, Nat.succ_sub_succ_eq_sub, Nat.reduceSub, Nat.reduceAdd, Nat.sub_zero, tYes, tSl, tPart, tNoPart, if_true, Bool.false_eq_true, if_false, reduceCtorEq, false_and, exists_false, or_false, false_or, scal, tLc_eq, tFor_eq, iStr, iList, iTup, RZ.iZipA, decide_false, decide_true, tM1, tM0, tDrop, tAug, ipI]
            refine ⟨_, rfl, hbok _ (List.getElem_mem hj), fun items hit r H'' e'' hr'' => ⟨acc, e'' D _ hacc, hal2, acc ++ [.ref r], upd_same, by rw [List.length_append]; simp; omega, Ex.mut (x1.trans e'') x2, x2, ?_⟩, fun hn => ?_⟩
            · have q : ProgL H'' (acc ++ [.ref r]) ((blockS (rowsS t) (i + 1)).take (j + 1)) := by
                rw [List.take_add_one, hyj]
                exact (x3.mono e'').snoc hit hr''
              exact q.upd (fun tt z => by rw [e'' D _ hacc] at z; cases z)
            · have := hpw j _ hyj
              unfold wrongRow at this
              rw [hn] at this
              cases this
          · rintro D acc H' hD hal ⟨x1, x2, x3⟩
            rw [List.length_map, List.take_length] at x3
            try simp only [is_ss, is_si, is_ii, is_ib, is_is, is_bs, is_ns, is_ni, is_nt, Bool.not_false, Bool.not_true, tSeq, tIfS, tRet, tRetN, tNext, tNever, tAsg, gName, tVar, tC, tOp, tUn, tCons, tNil, tCB, tCall, tTest, tB, tAnd, tOr, tNot, tAndV, tOrV, tNotV, tIf, tChain, rI0, rI, rU, rEq, rNe, List.map_cons, List.map_nil, List.length_cons, List.length_nil, List.replicate, List.cons_append, List.nil_append, List.append_nil, List.getElem?_cons_zero, List.getElem?_cons_succ, List.set_cons_zero, List.set_cons_succ, Option.some.injEq, exists_eq_left', exists_eq_left, exists_eq_right, V.str.injEq, V.int.injEq, V.bl.injEq, V.ref.injEq, V.ty.injEq, List.cons.injEq, and_true, true_and, exists_and_left, Nat.zero_add, Nat.add_sub_cancel, Nat.sub_self, Nat.succ_sub_succ_eq_sub, Nat.reduceSub, Nat.reduceAdd, Nat.sub_zero, tYes, tSl, tPart, tNoPart, if_true, Bool.false_eq_true, if_false, reduceCtorEq, false_and, exists_false, or_false, false_or, scal, tLc_eq, tFor_eq, iStr, iList, iTup, RZ.iZipA, decide_false, decide_true, tM1, tM0, tDrop, tAug, ipI]
            have e13 := e12.trans x1
            have hd3 := e13 e _ hd1'
            have hml : (kvsM ms).length < sizeLine := by
              have q1 := congrArg List.length hms
              rw [List.length_append, List.length_map] at q1
              refine small ?_
              unfold kvsM
              rw [List.length_map]
              omega
            refine putR hd3 hml ((hPv _ _ _).mpr ⟨⟨_, _, _, rfl⟩, ?_, ms ++ [(m, D, blockS (rowsS t) (i + 1))], ⟨?_, ?_⟩, ?_⟩)
            · exact Ex.mut (e11.trans e13) he
            · rw [upd_same, putM hnotin]
            · have hne : ∀ (b : Addr) (xs : List V), H' b = some (.lst xs) → upd H' e (.dK (putK (kvsM ms) (Sum.inr m) (.ref D))) b = some (.lst xs) := by
                intro b xs hb
                rw [upd_ne (fun z => by rw [z, hd3] at hb; cases hb)]
                exact hb
              have hnt : ∀ tt, H' e ≠ some (.tup tt) := fun tt z => by rw [hd3] at z; cases z
              intro m2 hm2
              rcases List.mem_append.mp hm2 with z | z
              · obtain ⟨xs, q1, q2⟩ := hd2' m2 z
                exact ⟨xs, hne _ _ (e13 _ _ q1), (q2.mono e13).upd hnt⟩
              · rw [List.mem_singleton.mp z]
                exact ⟨acc, hne _ _ hD, x3.upd hnt⟩
            · rw [List.map_append, List.append_assoc]
              exact hms
      · intro σ' H' hq
        obtain ⟨⟨u, v, z, rfl⟩, e9, ms, hd, hms⟩ := (hPv _ _ _).mp hq
        rw [List.length_map, List.drop_length] at hms
        exact ⟨⟨_, _, _, rfl⟩, e9, ms, hd, by rw [← hms]; exact (List.append_nil _).symm⟩
    · rintro σ' H8 ⟨⟨u, v, z, rfl⟩, e8, ms, ⟨hd1, hd2⟩, hms⟩
      try simp only [tMake_eq, is_ss, is_si, is_ii, is_ib, is_is, is_bs, is_ns, is_ni, is_nt, Bool.not_false, Bool.not_true, tSeq, tIfS, tRet, tRetN, tNext, tNever, tAsg, gName, tVar, tC, tOp, tUn, tCons, tNil, tCB, tCall, tTest, tB, tAnd, tOr, tNot, tAndV, tOrV, tNotV, tIf, tChain, rI0, rI, rU, rEq, rNe, List.map_cons, List.map_nil, List.length_cons, List.length_nil, List.replicate, List.cons_append, List.nil_append, List.append_nil, List.getElem?_cons_zero, List.getElem?_cons_succ, List.set_cons_zero, List.set_cons_succ, Option.some.injEq, exists_eq_left', exists_eq_left, exists_eq_right, V.str.injEq, V.int.injEq, V.bl.injEq, V.ref.injEq, V.ty.injEq, List.cons.injEq, and_true, true_and, exists_and_left, Nat.zero_add, Nat.add_sub_cancel, Nat.sub_self, Nat.succ_sub_succ_eq_sub, Nat.reduceSub, Nat.reduceAdd, Nat.sub_zero, tYes, tSl, tPart, tNoPart, if_true, Bool.false_eq_true, if_false, reduceCtorEq, false_and, exists_false, or_false, false_or, scal, tLc_eq, tFor_eq, iStr, iList, iTup, RZ.iZipA, decide_false, decide_true, tM1, tM0, tDrop, tAug, ipI]
      intro x dx hx hdx hxd
      have b1 : Ex H8 (upd (upd H8 dx (.own x)) x (.ins d.lb dx [])) := by
        refine (Ex.new hdx).trans (Ex.new ?_)
        rw [upd_ne hxd.symm]
        exact hx
      have hmn : ms.map (·.1) = (modsL (rowsS t)).map (·.1) := by
        rw [← hms, List.map_map]
        rfl
      have hmsmem : ∀ m ∈ ms, (m.1, m.2.2) ∈ modsL (rowsS t) := fun m hm => by rw [← hms]; exact List.mem_map.mpr ⟨m, hm, rfl⟩
      have hlenm : ms.length = (modsL (rowsS t)).length := by rw [← hms, List.length_map]
      refine ⟨x, dx, e, ms, rfl, upd_same, ⟨b1 e _ hd1, fun m hm => let ⟨xs, q1, q2⟩ := hd2 m hm; ⟨xs, b1 _ _ q1, q2.mono b1⟩⟩, ⟨?_, by omega, fun m hm => ?_, fun m hm => ?_, ?_, by rw [hmn]; exact hnd⟩, fun H9 ms' xb hms' lib => ⟨rfl, ?_⟩⟩
      · rw [hlenm]
        have hpos : 0 < (rowsS t).length := List.length_pos_iff.mpr hne
        exact List.length_pos_iff.mpr (f6 hpos)
      · have q := (f4 _ (hmsmem m hm)).2
        exact ⟨q, nmB_len q⟩
      · obtain ⟨q1, q2⟩ := prob_ok (f4 _ (hmsmem m hm)).1
        refine ⟨q1, fun y hy => ?_, ?_⟩
        · refine hrok y ?_
          rw [f5]
          exact List.mem_flatMap.mpr ⟨_, hmsmem m hm, List.mem_cons_of_mem _ hy⟩
        · rw [hmn, ← hnames]
          exact q2
      · rw [hmn, List.pairwise_map]
        exact f3.imp fun h => lt_leT h
      · refine hQ hnone x ms' H9 (fun b o hb => ?_) lib (hms'.trans hms)
        have hb8 := (e6.trans e8) b o hb
        exact xb b o (fun z => by rw [z, hx] at hb8; cases hb8) (b1 b o hb8)

end K17

-- text K17Q1
set_option maxHeartbeats 8000000
namespace K17
open PySem PySem.Spec PyProof.Rows L2 Evl
variable {P : Program} {w : World} {K : PySem.W.Frag} {mg : Str → Option Value} {base : Heap} {d : Ad}
/-! ## the law's readers: labels, numbers, heads -/
def spLabel : Sp := fun vs H Q _ => ∃ x : Str, vs = [.str x] ∧ x.length ≤ 3000000 ∧ ∀ H', Ex H H' → Q (.bl (nmB x)) H'
theorem o__law_is_label (T : Tx w K mg d) (F : Fd K mg "_law_is_label" s_L_is_label []) : Ok0 P w K mg base 3 "_law_is_label" ["_law_thing"] spLabel := by
  refine mkOk 2 F sc_L_is_label (fun _ _ _ _ _ _ us hl => match us, hl with | [_], _ => rfl) (fun vs H Q E h => by obtain ⟨x, rfl, _⟩ := h; rfl) fun f cdv A outer s H vs Q E hr h => ?_
  obtain ⟨x, rfl, hx, hQ⟩ := h
  refine ⟨_, PSs.nox (pss_one (ps_ret (pe_and (pe_chain op_lt op_lt pe_int (pe_callB call_len_str (by rfl) T.b_len (by decide +kernel) (pa_cons (pv 0) pa_nil)) pe_int) (pe_one (pe_cmpR (op_eqE hr.units0) (pe_lc (own := [("_law_letter", 1)]) rfl sc_L_is_label.nd (pi_str (pv 0)) (blkOk_by (own := [("_law_letter", 1)]) (N := n_L_is_label) (sc := defScope s_L_is_label) (by decide +kernel)) (fun _ _ _ _ _ => (pg_name (i := 1) sc_L_is_label.nd rfl (Or.inl rfl))) (fun _ _ _ _ _ => (pts_one (pt_not (pt_chain op_le_str op_le_str pe_str (pv 1) pe_str)))) (fun _ _ _ _ _ => (pv 1))) (pe_lst pa_nil) (nomark _)))))), ?_⟩
  try simp only [tLst, n_L_is_label, L2.start, cxK, cxW, cxK', cxW', is_ss, is_si, is_ii, is_ib, is_is, is_bs, is_ns, is_ni, is_nt, Bool.not_false, Bool.not_true, tSeq, tIfS, tRet, tRetN, tNext, tNever, tAsg, gName, tVar, tC, tOp, tUn, tCons, tNil, tCB, tCall, tTest, tB, tAnd, tOr, tNot, tAndV, tOrV, tNotV, tIf, tChain, rI0, rI, rU, rEq, rNe, List.map_cons, List.map_nil, List.length_cons, List.length_nil, List.replicate, List.cons_append, List.nil_append, List.append_nil, List.getElem?_cons_zero, List.getElem?_cons_succ, List.set_cons_zero, List.set_cons_succ, Option.some.injEq, exists_eq_left', exists_eq_left, exists_eq_right, V.str.injEq, V.int.injEq, V.bl.injEq, V.ref.injEq, V.ty.injEq, List.cons.injEq, and_true, true_and, exists_and_left, Nat.zero_add, Nat.add_sub_cancel, Nat.sub_self, Nat.succ_sub_succ_eq_sub, Nat.reduceSub, Nat.reduceAdd, Nat.sub_zero, tYes, tSl, tPart, tNoPart, if_true, Bool.false_eq_true, if_false, reduceCtorEq, false_and, exists_false, or_false, false_or, scal, tLc_eq, tFor_eq, iStr, iList, iTup, RZ.iZipA, decide_false, decide_true, tM1, tM0, tDrop, tAug, ipI]
  refine ⟨small' (by omega), ?_⟩
  have el : x.length = (tl x).length := TL.len_tl x
  have hnm : nmB x = (decide (1 ≤ (tl x).length) && decide ((tl x).length ≤ 8) && (tl x).all lowB) := rfl
  by_cases h1 : (0 : Int) < (x.length : Int)
  · rw [if_pos (decide_eq_true h1)]
    by_cases h8 : (x.length : Int) < 9
    · rw [if_pos (decide_eq_true h8)]
      refine lcM (gv := sgV) (goes_strV (small (by omega))) (fun _ _ => trivial) (fun c => !lowB c) (fun c => sgV c) (fun c hc H1 e Q' q => ?_) (fun c hc _ H1 e Q' q => ?_) (fun D H2 h1' h2 h3 => ?_) (fun o => rfl)
      · simp only [wipe, is_ss, is_si, is_ii, is_ib, is_is, is_bs, is_ns, is_ni, is_nt, Bool.not_false, Bool.not_true, tSeq, tIfS, tRet, tRetN, tNext, tNever, tAsg, gName, tVar, tC, tOp, tUn, tCons, tNil, tCB, tCall, tTest, tB, tAnd, tOr, tNot, tAndV, tOrV, tNotV, tIf, tChain, rI0, rI, rU, rEq, rNe, List.map_cons, List.map_nil, List.length_cons, List.length_nil, List.replicate, List.cons_append, List.nil_append, List.append_nil, List.getElem?_cons_zero, List.getElem?_cons_succ, List.set_cons_zero, List.set_cons_succ, Option.some.injEq, exists_eq_left', exists_eq_left, exists_eq_right, V.str.injEq, V.int.injEq, V.bl.injEq, V.ref.injEq, V.ty.injEq, List.cons.injEq, and_true, true_and, exists_and_left, Nat.zero_add, Nat.add_sub_cancel, Nat.sub_self, Nat.succ_sub_succ_eq_sub, Nat.reduceSub, Nat.reduceAdd, Nat.sub_zero, tYes, tSl, tPart, tNoPart, if_true, Bool.false_eq_true, if_false, reduceCtorEq, false_and, exists_false, or_false, false_or, scal, tLc_eq, tFor_eq, iStr, iList, iTup, RZ.iZipA, decide_false, decide_true, tM1, tM0, tDrop, tAug, ipI]
        have ea : (Str.ofString "a").cps.toList = [97] := by decide +kernel
        have ez : (Str.ofString "z").cps.toList = [122] := by decide +kernel
        have e1 : decide (([c] : List Nat) < [97]) = decide (c < 97) := by
          rw [Bool.eq_iff_iff, decide_eq_true_eq, decide_eq_true_eq]
          constructor
          · intro h
            rcases List.cons_lt_cons_iff.mp h with z | ⟨z1, z2⟩
            · exact z
            · exact absurd z2 (List.lt_irrefl _)
          · intro h
            exact List.cons_lt_cons_iff.mpr (.inl h)
        have e2 : decide (([122] : List Nat) < [c]) = decide (122 < c) := by
          rw [Bool.eq_iff_iff, decide_eq_true_eq, decide_eq_true_eq]
          constructor
          · intro h
            rcases List.cons_lt_cons_iff.mp h with z | ⟨z1, z2⟩
            · exact z
            · exact absurd z2 (List.lt_irrefl _)
          · intro h
            exact List.cons_lt_cons_iff.mpr (.inl h)
        rw [ea, ez]
        show (if (!decide (([c] : List Nat) < [97])) = true then Q' (!!decide (([122] : List Nat) < [c])) H1 else _)
        rw [e1, e2]
        have q0 := q H1 (Ex.refl _)
        unfold lowB at q0
        by_cases hc1 : c < 97
        · rw [if_neg (by simp [hc1])]
          rw [decide_eq_false (show ¬ 97 ≤ c by omega)] at q0
          exact q0
        · rw [if_pos (by simp [hc1])]
          rw [decide_eq_true (show 97 ≤ c by omega)] at q0
          by_cases hc2 : 122 < c
          · rw [decide_eq_true hc2]
            rw [decide_eq_false (show ¬ c ≤ 122 by omega)] at q0
            exact q0
          · rw [decide_eq_false hc2]
            rw [decide_eq_true (show c ≤ 122 by omega)] at q0
            exact q0
      · simp only [wipe, is_ss, is_si, is_ii, is_ib, is_is, is_bs, is_ns, is_ni, is_nt, Bool.not_false, Bool.not_true, tSeq, tIfS, tRet, tRetN, tNext, tNever, tAsg, gName, tVar, tC, tOp, tUn, tCons, tNil, tCB, tCall, tTest, tB, tAnd, tOr, tNot, tAndV, tOrV, tNotV, tIf, tChain, rI0, rI, rU, rEq, rNe, List.map_cons, List.map_nil, List.length_cons, List.length_nil, List.replicate, List.cons_append, List.nil_append, List.append_nil, List.getElem?_cons_zero, List.getElem?_cons_succ, List.set_cons_zero, List.set_cons_succ, Option.some.injEq, exists_eq_left', exists_eq_left, exists_eq_right, V.str.injEq, V.int.injEq, V.bl.injEq, V.ref.injEq, V.ty.injEq, List.cons.injEq, and_true, true_and, exists_and_left, Nat.zero_add, Nat.add_sub_cancel, Nat.sub_self, Nat.succ_sub_succ_eq_sub, Nat.reduceSub, Nat.reduceAdd, Nat.sub_zero, tYes, tSl, tPart, tNoPart, if_true, Bool.false_eq_true, if_false, reduceCtorEq, false_and, exists_false, or_false, false_or, scal, tLc_eq, tFor_eq, iStr, iList, iTup, RZ.iZipA, decide_false, decide_true, tM1, tM0, tDrop, tAug, ipI]
        exact q H1 (Ex.refl _)
      · refine ⟨Nat.zero_le _, fun p hp => ?_⟩
        have e3 : Ex H2 (upd H2 p (.lst [])) := Ex.new hp
        refine ⟨D, p, _, rfl, rfl, SqL.of (e3 D _ h3), SqL.of upd_same, ?_⟩
        have e4 : (((TL.tl x).filter fun c => !lowB c).map sgV).isEmpty = nmB x := by
          rw [hnm, decide_eq_true (show 1 ≤ (tl x).length by omega), decide_eq_true (show (tl x).length ≤ 8 by omega)]
          simp only [Bool.true_and]
          rw [Bool.eq_iff_iff, List.isEmpty_iff, List.map_eq_nil_iff, List.filter_eq_nil_iff, List.all_eq_true]
          simp
        rw [if_neg (by decide), e4]
        exact hQ _ (h2.trans e3)
    · rw [if_neg (by simpa using h8)]
      have e : nmB x = false := by rw [hnm, decide_eq_false (show ¬ (tl x).length ≤ 8 by omega)]; simp
      rw [e] at hQ
      exact hQ H (Ex.refl _)
  · rw [if_neg (by simpa using h1)]
    have e : nmB x = false := by rw [hnm, decide_eq_false (show ¬ 1 ≤ (tl x).length by omega)]; simp
    rw [e] at hQ
    exact hQ H (Ex.refl _)
theorem one_char (c : Nat) (x : Str) : decide ((⟨#[c]⟩ : Str) = x) = decide ([c] = tl x) := dec_str_tl _ _
theorem tl_zero : tl (Str.ofString "0") = [48] := by decide +kernel
def spNumber : Sp := fun vs H Q _ => ∃ x : Str, vs = [.str x] ∧ x.length ≤ 3000000 ∧ ∀ H', Ex H H' → Q (.bl (numB (tl x))) H'
theorem o__law_is_number (T : Tx w K mg d) (F : Fd K mg "_law_is_number" s_L_is_number []) : Ok0 P w K mg base 3 "_law_is_number" ["_law_word_here"] spNumber := by
  refine mkOk 2 F sc_L_is_number (fun _ _ _ _ _ _ us hl => match us, hl with | [_], _ => rfl) (fun vs H Q E h => by obtain ⟨x, rfl, _⟩ := h; rfl) fun f cdv A outer s H vs Q E hr h => ?_
  obtain ⟨x, rfl, hx, hQ⟩ := h
  refine ⟨_, PSs.nox (pss_cons (ps_set (i := 1) sc_L_is_number.nd rfl (.inl rfl) (pe_ifExp (pt_cmpR op_eq (pe_slice sl_str (pv 0) po_none (po_some pe_int)) pe_str (nomark _)) (pe_slice sl_str (pv 0) (po_some pe_int) po_none) (pv 0)))
    (pss_cons (ps_if (PW.pt (pw_or (pt_cmpR op_eq (pv 1) pe_str (nomark _)) (pw_or1 (pt_cmpR (op_neE hr.units0) (pe_lc (own := [("_law_sign", 2)]) rfl sc_L_is_number.nd (pi_str (pv 1)) (blkOk_by (own := [("_law_sign", 2)]) (N := n_L_is_number) (sc := defScope s_L_is_number) (by decide +kernel)) (fun _ _ _ _ _ => (pg_name (i := 2) sc_L_is_number.nd rfl (Or.inl rfl))) (fun _ _ _ _ _ => (pts_one (pt_cmpR op_notIn_sign (pv 2) pe_str (by rfl)))) (fun _ _ _ _ _ => (pv 2))) (pe_lst pa_nil) (nomark _))))) (pss_one (ps_ret pe_bl)) pss_nil)
    (pss_one (ps_ret (pe_or (pe_cmpR op_eq (pv 0) pe_str (nomark _)) (pe_one (pe_cmpR op_ne (pe_ix ix_str (pv 1) pe_int (fun _ _ => rfl)) pe_str (nomark _)))))))), ?_⟩
  try simp only [rSlS, tLst, n_L_is_number, L2.start, cxK, cxW, cxK', cxW', is_ss, is_si, is_ii, is_ib, is_is, is_bs, is_ns, is_ni, is_nt, Bool.not_false, Bool.not_true, tSeq, tIfS, tRet, tRetN, tNext, tNever, tAsg, gName, tVar, tC, tOp, tUn, tCons, tNil, tCB, tCall, tTest, tB, tAnd, tOr, tNot, tAndV, tOrV, tNotV, tIf, tChain, rI0, rI, rU, rEq, rNe, List.map_cons, List.map_nil, List.length_cons, List.length_nil, List.replicate, List.cons_append, List.nil_append, List.append_nil, List.getElem?_cons_zero, List.getElem?_cons_succ, List.set_cons_zero, List.set_cons_succ, Option.some.injEq, exists_eq_left', exists_eq_left, exists_eq_right, V.str.injEq, V.int.injEq, V.bl.injEq, V.ref.injEq, V.ty.injEq, List.cons.injEq, and_true, true_and, exists_and_left, Nat.zero_add, Nat.add_sub_cancel, Nat.sub_self, Nat.succ_sub_succ_eq_sub, Nat.reduceSub, Nat.reduceAdd, Nat.sub_zero, tYes, tSl, tPart, tNoPart, if_true, Bool.false_eq_true, if_false, reduceCtorEq, false_and, exists_false, or_false, false_or, scal, tLc_eq, tFor_eq, iStr, iList, iTup, RZ.iZipA, decide_false, decide_true, tM1, tM0, tDrop, tAug, ipI]
  have hx0 : x.length ≤ sizeLine := small' (by omega)
  refine ⟨hx0, ?_⟩
  have el : x.length = (tl x).length := TL.len_tl x
  have hdl : (digsL (tl x)).length ≤ (tl x).length := by
    unfold digsL
    split
    · rw [List.length_tail]; omega
    · omega
  have tail : ∀ z : Str, tl z = digsL (tl x) → (if decide (z = Str.ofString "") = true then Q (V.bl false) H else
      LcW (Its z) (gName 2) (tTest (tOp (fun x y H Q => ∃ c, x = V.str { cps := #[c] } ∧ ∃ x, y = V.str x ∧ Q (V.bl !decide (c ∈ x.cps.toList)) H) (tVar 2) (tC (V.str (Str.ofString "0123456789"))))) (tVar 2) [2]
        [some (V.str x), some (V.str z), none] H fun x_1 H1 => 0 ≤ sizeLine ∧ ∀ p, H1 p = none → rNilL K true x_1 (V.ref p) (upd H1 p (HO.lst [])) fun x_2 H1 => ∃ k, x_2 = V.bl k ∧ if k = true then Q (V.bl false) H1 else
          if decide (x = Str.ofString "0") = true then Q (V.bl true) H1 else rIxS (V.str z) (V.int 0) H1 fun x H1 => scal x (V.str (Str.ofString "0")) = true ∧ Q (V.bl !decide (x = V.str (Str.ofString "0"))) H1) := by
    intro z hz
    have hzl : z.length = (tl z).length := TL.len_tl z
    rw [hz] at hzl
    by_cases h0 : digsL (tl x) = []
    · rw [if_pos (by rw [dec_str_tl, hz, tl_empty, h0]; rfl)]
      have q := hQ H (Ex.refl _)
      have e : numB (tl x) = false := by unfold numB; rw [h0]; rfl
      rw [e] at q
      exact q
    · rw [if_neg (by rw [dec_str_tl, hz, tl_empty]; simpa using h0)]
      refine lcM (gv := sgV) (goes_strV (small (by omega))) (fun _ _ => trivial) (fun c => !isDig c) (fun c => sgV c) (fun c hc H1 e Q' q => ?_) (fun c hc _ H1 e Q' q => ?_) (fun D H2 h1' h2 h3 => ?_) (fun o => rfl)
      · simp only [wipe, is_ss, is_si, is_ii, is_ib, is_is, is_bs, is_ns, is_ni, is_nt, Bool.not_false, Bool.not_true, tSeq, tIfS, tRet, tRetN, tNext, tNever, tAsg, gName, tVar, tC, tOp, tUn, tCons, tNil, tCB, tCall, tTest, tB, tAnd, tOr, tNot, tAndV, tOrV, tNotV, tIf, tChain, rI0, rI, rU, rEq, rNe, List.map_cons, List.map_nil, List.length_cons, List.length_nil, List.replicate, List.cons_append, List.nil_append, List.append_nil, List.getElem?_cons_zero, List.getElem?_cons_succ, List.set_cons_zero, List.set_cons_succ, Option.some.injEq, exists_eq_left', exists_eq_left, exists_eq_right, V.str.injEq, V.int.injEq, V.bl.injEq, V.ref.injEq, V.ty.injEq, List.cons.injEq, and_true, true_and, exists_and_left, Nat.zero_add, Nat.add_sub_cancel, Nat.sub_self, Nat.succ_sub_succ_eq_sub, Nat.reduceSub, Nat.reduceAdd, Nat.sub_zero, tYes, tSl, tPart, tNoPart, if_true, Bool.false_eq_true, if_false, reduceCtorEq, false_and, exists_false, or_false, false_or, scal, tLc_eq, tFor_eq, iStr, iList, iTup, RZ.iZipA, decide_false, decide_true, tM1, tM0, tDrop, tAug, ipI]
        refine ⟨c, rfl, ?_⟩
        rw [digits_dig]
        exact q H1 (Ex.refl _)
      · simp only [wipe, is_ss, is_si, is_ii, is_ib, is_is, is_bs, is_ns, is_ni, is_nt, Bool.not_false, Bool.not_true, tSeq, tIfS, tRet, tRetN, tNext, tNever, tAsg, gName, tVar, tC, tOp, tUn, tCons, tNil, tCB, tCall, tTest, tB, tAnd, tOr, tNot, tAndV, tOrV, tNotV, tIf, tChain, rI0, rI, rU, rEq, rNe, List.map_cons, List.map_nil, List.length_cons, List.length_nil, List.replicate, List.cons_append, List.nil_append, List.append_nil, List.getElem?_cons_zero, List.getElem?_cons_succ, List.set_cons_zero, List.set_cons_succ, Option.some.injEq, exists_eq_left', exists_eq_left, exists_eq_right, V.str.injEq, V.int.injEq, V.bl.injEq, V.ref.injEq, V.ty.injEq, List.cons.injEq, and_true, true_and, exists_and_left, Nat.zero_add, Nat.add_sub_cancel, Nat.sub_self, Nat.succ_sub_succ_eq_sub, Nat.reduceSub, Nat.reduceAdd, Nat.sub_zero, tYes, tSl, tPart, tNoPart, if_true, Bool.false_eq_true, if_false, reduceCtorEq, false_and, exists_false, or_false, false_or, scal, tLc_eq, tFor_eq, iStr, iList, iTup, RZ.iZipA, decide_false, decide_true, tM1, tM0, tDrop, tAug, ipI]
        exact q H1 (Ex.refl _)
      · have hz' : TL.tl z = digsL (tl x) := hz
        rw [hz'] at h3
        refine ⟨Nat.zero_le _, fun p hp => ?_⟩
        have e3 : Ex H2 (upd H2 p (.lst [])) := Ex.new hp
        refine ⟨D, p, _, rfl, rfl, SqL.of (e3 D _ h3), SqL.of upd_same, _, rfl, ?_⟩
        have q := hQ _ (h2.trans e3)
        have e4 : (!(((digsL (tl x)).filter fun c => !isDig c).map sgV).isEmpty) = !(digsL (tl x)).all isDig := by
          congr 1
          rw [Bool.eq_iff_iff, List.isEmpty_iff, List.map_eq_nil_iff, List.filter_eq_nil_iff, List.all_eq_true]
          simp
        have e7 : (digsL (tl x)).isEmpty = false := by
          cases qq : digsL (tl x) with
          | nil => exact absurd qq h0
          | cons _ _ => rfl
        unfold numB at q
        rw [e7] at q
        rw [e4]
        cases hd : (digsL (tl x)).all isDig with
        | false =>
          rw [hd] at q
          rw [if_pos (by rfl)]
          simpa using q
        | true =>
          rw [hd] at q
          simp only [Bool.not_false, Bool.true_and] at q
          rw [if_neg (by simp), dec_str_tl x, tl_zero]
          by_cases hs : tl x = [48]
          · rw [if_pos (decide_eq_true hs)]
            rw [decide_eq_true hs, Bool.true_or] at q
            exact q
          · rw [if_neg (by simpa using hs)]
            rw [decide_eq_false hs, Bool.false_or] at q
            obtain ⟨c, r, hcr⟩ : ∃ c r, digsL (tl x) = c :: r := by
              cases qq : digsL (tl x) with
              | nil => exact absurd qq h0
              | cons c r => exact ⟨c, r, rfl⟩
            refine ⟨z, 0, c, rfl, rfl, small' (by omega), by rw [show z.cps.toList = c :: r from hz.trans hcr]; exact at0, rfl, ?_⟩
            have e8 : (!decide ((V.str ⟨#[c]⟩ : V) = V.str (Str.ofString "0"))) = decide ((digsL (tl x)).head? ≠ some 48) := by
              rw [hcr]
              have e9 : decide ((V.str ⟨#[c]⟩ : V) = V.str (Str.ofString "0")) = decide ([c] = [48]) := by
                rw [← tl_zero, ← one_char]
                simp
              rw [e9]
              by_cases h48 : c = 48
              · subst h48; simp
              · simp [h48]
            rw [e8]
            exact q
  have e1 : tl (cutS x none (some 1)) = (tl x).take 1 := tl_cut_to x 1
  have e2 : tl (cutS x (some 1) none) = (tl x).drop 1 := tl_cut_from x 1
  by_cases h : (tl x).head? = some 45
  · have h2 : (tl x).take 1 = [45] := by
      cases q : tl x with
      | nil => rw [q] at h; cases h
      | cons c r => rw [q] at h; cases h; rfl
    rw [if_pos (by rw [dec_str_tl, e1, tl_minus, h2]; rfl)]
    exact ⟨hx0, tail _ (by rw [e2, List.drop_one]; unfold digsL; rw [if_pos h])⟩
  · have h2 : ¬ (tl x).take 1 = [45] := by
      intro z
      apply h
      cases q : tl x with
      | nil => rw [q] at z; cases z
      | cons c r => rw [q] at z; cases z; rfl
    rw [if_neg (by rw [dec_str_tl, e1, tl_minus]; simpa using h2)]
    exact tail _ (by unfold digsL; rw [if_neg h])
/-! ### _law_head -/
theorem tl_module : tl (Str.ofString "module") = [109, 111, 100, 117, 108, 101] := by decide +kernel
def headW (ws : List Str) : Option Str := match ws with
  | [a, b] => if a = Str.ofString "module" ∧ nmB b = true then some b else none
  | _ => none
theorem nm_no32 {x : Str} (h : nmB x = true) : 32 ∉ tl x := by
  have h2 : (decide (1 ≤ (TL.tl x).length) && decide ((TL.tl x).length ≤ 8) && (TL.tl x).all lowB) = true := h
  simp only [Bool.and_eq_true] at h2
  intro z
  have := List.all_eq_true.mp h2.2 32 z
  exact absurd this (by decide)
theorem head_mod (y : Str) : headW (wordsS y) = modS y := by
  have hw := words_tl y
  have e7 : tl (cutS y (some 7) none) = (tl y).drop 7 := tl_cut_from y 7
  cases hm : modS y with
  | some m =>
    obtain ⟨h1, h2⟩ := modS_head hm
    have h3 : tl y = [109, 111, 100, 117, 108, 101] ++ 32 :: tl m := by
      conv => lhs; rw [h1]
      show TL.tl (headS ++ m) = _
      rw [TL.tl_append, show TL.tl headS = [109, 111, 100, 117, 108, 101, 32] from tl_head]
      rfl
    rw [h3, cut_append 32 (by decide), cut_whole 32 (nm_no32 h2)] at hw
    cases q : wordsS y with
    | nil => rw [q] at hw; cases hw
    | cons a r =>
      rw [q] at hw
      cases r with
      | nil => simp at hw
      | cons b r2 =>
        cases r2 with
        | nil =>
          simp only [List.map_cons, List.map_nil, List.cons.injEq, and_true] at hw
          have ea : a = Str.ofString "module" := TL.ext_tl (hw.1.trans tl_module.symm)
          have eb : b = m := TL.ext_tl hw.2
          show (if a = Str.ofString "module" ∧ nmB b = true then some b else none) = _
          rw [eb, if_pos ⟨ea, h2⟩]
        | cons c r3 => simp at hw
  | none =>
    cases q : wordsS y with
    | nil => rfl
    | cons a r =>
      cases r with
      | nil => rfl
      | cons b r2 =>
        cases r2 with
        | cons c r3 => rfl
        | nil =>
          show (if a = Str.ofString "module" ∧ nmB b = true then some b else none) = none
          rw [if_neg]
          rintro ⟨ea, hb⟩
          rw [q] at hw
          have hg := glue_cut 32 (tl y)
          rw [← hw] at hg
          have h3 : tl y = [109, 111, 100, 117, 108, 101] ++ 32 :: tl b := by
            rw [← hg, ea]
            show tl (Str.ofString "module") ++ 32 :: tl b = _
            rw [tl_module]
          unfold modS at hm
          have e8 : cutS y (some 7) none = b := TL.ext_tl (by rw [show TL.tl (cutS y (some 7) none) = (tl y).drop 7 from e7, h3]; rfl)
          rw [e8, if_pos ⟨by rw [h3]; rfl, hb⟩] at hm
          cases hm
def spHead : Sp := fun vs H Q _ => ∃ x : Str, vs = [.str x] ∧ x.length ≤ 2000000 ∧ ∀ H', Ex H H' → Q (optV (modS x)) H'
theorem words_len (x : Str) : (wordsS x).length ≤ x.length + 1 := by
  have h := congrArg List.length (words_tl x)
  rw [List.length_map] at h
  have := cut_count 32 (tl x)
  have e : x.length = (tl x).length := TL.len_tl x
  omega
theorem words_le (x : Str) : ∀ y ∈ wordsS x, y.length ≤ x.length := by
  intro y hy
  have h2 : tl y ∈ cut 32 (tl x) := by
    rw [← words_tl]
    exact List.mem_map.mpr ⟨y, hy, rfl⟩
  have := (cut_infix 32 h2).length_le
  have e1 : y.length = (tl y).length := TL.len_tl y
  have e2 : x.length = (tl x).length := TL.len_tl x
  omega
theorem o__law_head (T : Tx w K mg d) (F : Fd K mg "_law_head" s_L_head []) (o__law_is_label : Ok0 P w K mg base 3 "_law_is_label" ["_law_thing"] spLabel) : Ok0 P w K mg base 4 "_law_head" ["_law_row"] spHead := by
  refine mkOk 3 F sc_L_head (fun _ _ _ _ _ _ us hl => match us, hl with | [_], _ => rfl) (fun vs H Q E h => by obtain ⟨x, rfl, _⟩ := h; rfl) fun f cdv A outer s H vs Q E hr h => ?_
  obtain ⟨x, rfl, hx, hQ⟩ := h
  refine ⟨_, PSs.nox (pss_cons (ps_set (i := 1) sc_L_head.nd rfl (.inl rfl) (pe_split (pv 0) pe_str))
    (pss_one (ps_ret (pe_ifExp (PW.pt (pw_and (pt_cmpR op_eq (pe_callB call_len_seq (by rfl) T.b_len (by decide +kernel) (pa_cons (pv 1) pa_nil)) pe_int (nomark _)) (pw_and (pt_cmpR op_eq (pe_ix ix_list (pv 1) pe_int (fun _ _ => rfl)) pe_str (nomark _)) (pw_and1 (pt_val (pe_c o__law_is_label (hr.mono (by decide)) pass0 (pa_cons (pe_ix ix_list (pv 1) pe_int (fun _ _ => rfl)) pa_nil))))))) (pe_ix ix_list (pv 1) pe_int (fun _ _ => rfl)) pe_non)))), ?_⟩
  try simp only [rNewStrs, n_L_head, L2.start, cxK, cxW, cxK', cxW', is_ss, is_si, is_ii, is_ib, is_is, is_bs, is_ns, is_ni, is_nt, Bool.not_false, Bool.not_true, tSeq, tIfS, tRet, tRetN, tNext, tNever, tAsg, gName, tVar, tC, tOp, tUn, tCons, tNil, tCB, tCall, tTest, tB, tAnd, tOr, tNot, tAndV, tOrV, tNotV, tIf, tChain, rI0, rI, rU, rEq, rNe, List.map_cons, List.map_nil, List.length_cons, List.length_nil, List.replicate, List.cons_append, List.nil_append, List.append_nil, List.getElem?_cons_zero, List.getElem?_cons_succ, List.set_cons_zero, List.set_cons_succ, Option.some.injEq, exists_eq_left', exists_eq_left, exists_eq_right, V.str.injEq, V.int.injEq, V.bl.injEq, V.ref.injEq, V.ty.injEq, List.cons.injEq, and_true, true_and, exists_and_left, Nat.zero_add, Nat.add_sub_cancel, Nat.sub_self, Nat.succ_sub_succ_eq_sub, Nat.reduceSub, Nat.reduceAdd, Nat.sub_zero, tYes, tSl, tPart, tNoPart, if_true, Bool.false_eq_true, if_false, reduceCtorEq, false_and, exists_false, or_false, false_or, scal, tLc_eq, tFor_eq, iStr, iList, iTup, RZ.iZipA, decide_false, decide_true, tM1, tM0, tDrop, tAug, ipI]
  have e6 : (Str.ofString " ").length = 1 := by decide +kernel
  refine ⟨⟨_, rfl⟩, by rw [e6]; rfl, small' (by omega), fun p hp => ?_⟩
  have e1 : Ex H (upd H p (.lst ((wordsS x).map V.str))) := Ex.new hp
  have hp1 : upd H p (.lst ((wordsS x).map V.str)) p = some (.lst ((wordsS x).map V.str)) := upd_same
  refine ⟨_, .inl (SqL.of hp1), ?_⟩
  have hle := words_le x
  rw [← head_mod] at hQ
  generalize upd H p (.lst ((wordsS x).map V.str)) = H1 at *
  rw [List.length_map]
  match hws : wordsS x with
  | [] =>
    rw [hws] at hQ
    rw [if_neg (by simp)]
    exact hQ H1 e1
  | [a] =>
    rw [hws] at hQ
    rw [if_neg (by simp)]
    exact hQ H1 e1
  | a :: b :: c :: r =>
    rw [hws] at hQ
    rw [if_neg (by simp; omega)]
    exact hQ H1 e1
  | [a, b] =>
    rw [hws] at hQ hp1 hle
    rw [if_pos (by rfl)]
    refine ixL (SqL.of hp1) at0 ?_
    try simp only [is_ss, is_si, is_ii, is_ib, is_is, is_bs, is_ns, is_ni, is_nt, Bool.not_false, Bool.not_true, tSeq, tIfS, tRet, tRetN, tNext, tNever, tAsg, gName, tVar, tC, tOp, tUn, tCons, tNil, tCB, tCall, tTest, tB, tAnd, tOr, tNot, tAndV, tOrV, tNotV, tIf, tChain, rI0, rI, rU, rEq, rNe, List.map_cons, List.map_nil, List.length_cons, List.length_nil, List.replicate, List.cons_append, List.nil_append, List.append_nil, List.getElem?_cons_zero, List.getElem?_cons_succ, List.set_cons_zero, List.set_cons_succ, Option.some.injEq, exists_eq_left', exists_eq_left, exists_eq_right, V.str.injEq, V.int.injEq, V.bl.injEq, V.ref.injEq, V.ty.injEq, List.cons.injEq, and_true, true_and, exists_and_left, Nat.zero_add, Nat.add_sub_cancel, Nat.sub_self, Nat.succ_sub_succ_eq_sub, Nat.reduceSub, Nat.reduceAdd, Nat.sub_zero, tYes, tSl, tPart, tNoPart, if_true, Bool.false_eq_true, if_false, reduceCtorEq, false_and, exists_false, or_false, false_or, scal, tLc_eq, tFor_eq, iStr, iList, iTup, RZ.iZipA, decide_false, decide_true, tM1, tM0, tDrop, tAug, ipI]
    by_cases ha : a = Str.ofString "module"
    · rw [if_pos (decide_eq_true ha)]
      refine ixL (i := 1) (v := .str b) (SqL.of hp1) rfl ⟨b, rfl, by have := hle b (by simp); omega, fun H2 e2 => ?_⟩
      have q := hQ H2 (e1.trans e2)
      cases hb : nmB b with
      | true =>
        rw [show headW [a, b] = some b from if_pos ⟨ha, hb⟩] at q
        refine ⟨true, rfl, ?_⟩
        rw [if_pos rfl]
        exact ixL (i := 1) (v := .str b) (SqL.of (e2 p _ hp1)) rfl q
      | false =>
        rw [show headW [a, b] = none from if_neg (fun z => by rw [hb] at z; exact absurd z.2 (by decide))] at q
        refine ⟨false, rfl, ?_⟩
        rw [if_neg (by decide)]
        exact q
    · rw [if_neg (by simpa using ha)]
      have q := hQ H1 e1
      rw [show headW [a, b] = none from if_neg (fun z => ha z.1)] at q
      exact q

end K17

-- text K17Q2
set_option maxHeartbeats 8000000
namespace K17
open PySem PySem.Spec PyProof.Rows L2 Evl
variable {P : Program} {w : World} {K : PySem.W.Frag} {mg : Str → Option Value} {base : Heap} {d : Ad}
/-! ## dict displays -/
def intsT : List Int → TA
  | [] => tNil
  | n :: r => tCons (tC (.int n)) (intsT r)
theorem intsT_go : ∀ (ns : List Int) (σ : L2.St) (H : Hp) (Q : List V → Hp → Prop), Q (ns.map V.int) H → intsT ns σ H Q
  | [], _, _, _, h => h
  | n :: r, σ, H, Q, h => intsT_go r σ H (fun xs H2 => Q (V.int n :: xs) H2) h
def DictL (H : Hp) (p : Addr) (L : List (Str × List Int)) : Prop := ∃ kvs : List (Key × V), H p = some (.dK kvs) ∧ ∀ w : Str, (∀ ns, L.lookup w = some ns → ∃ a, valV kvs (Sum.inr w) = some (.ref a) ∧ H a = some (.lst (ns.map V.int))) ∧ (L.lookup w = none → valV kvs (Sum.inr w) = none)
theorem DictL.mono {H H' : Hp} {p : Addr} {L : List (Str × List Int)} (h : DictL H p L) (e : Ex H H') : DictL H' p L := by
  obtain ⟨kvs, h1, h2⟩ := h
  exact ⟨kvs, e p _ h1, fun w => ⟨fun ns hn => let ⟨a, q1, q2⟩ := (h2 w).1 ns hn; ⟨a, q1, e a _ q2⟩, (h2 w).2⟩⟩
theorem put_new {kvs : List (Key × V)} {k : Key} {v : V} (h : k ∉ kvs.map (·.1)) : putK kvs k v = kvs ++ [(k, v)] := by
  unfold putK
  rw [if_neg]
  intro z
  rw [List.any_eq_true] at z
  obtain ⟨q, hq, e⟩ := z
  exact h (List.mem_map.mpr ⟨q, hq, of_decide_eq_true e⟩)
theorem merge_new : ∀ (more acc : List (Key × V)), (acc.map (·.1) ++ more.map (·.1)).Nodup → mergeK acc more = acc ++ more
  | [], acc, _ => (List.append_nil acc).symm
  | q :: r, acc, h => by
    show mergeK (putK acc q.1 q.2) r = _
    have h1 : q.1 ∉ acc.map (·.1) := by
      intro z
      exact (List.nodup_append.mp h).2.2 _ z _ (by rw [List.map_cons]; exact List.mem_cons_self) rfl
    rw [put_new h1, merge_new r (acc ++ [(q.1, q.2)]) (by
      rw [List.map_append, List.append_assoc]
      exact h)]
    rw [List.append_assoc]
    rfl
theorem merge_nil {kvs : List (Key × V)} (h : (kvs.map (·.1)).Nodup) : mergeK [] kvs = kvs := merge_new kvs [] h
theorem valV_cons {k k' : Key} {v : V} {r : List (Key × V)} : valV ((k, v) :: r) k' = if k = k' then some v else valV r k' := by
  unfold valV
  rw [List.find?_cons]
  by_cases h : k = k'
  · simp [h]
  · simp [h]
theorem valV_look {α : Type} (f : α → V) (w : Str) : ∀ L : List (Str × α), valV (L.map fun q => ((Sum.inr q.1 : Key), f q.2)) (Sum.inr w) = (L.lookup w).map f
  | [] => rfl
  | q :: r => by
    rw [List.map_cons, valV_cons, List.lookup_cons]
    by_cases h : q.1 = w
    · subst h
      simp
    · rw [if_neg (fun z => h (Sum.inr.inj z))]
      have e : (w == q.1) = false := by rw [beq_eq_false_iff_ne]; exact fun z => h z.symm
      rw [e]
      exact valV_look f w r
theorem pairsL : ∀ (L : List (Str × List Int)) (σ : L2.St) (H : Hp) (R : List (V × V) → Hp → Prop), (∀ q ∈ L, q.2.length ≤ 10) →
    (∀ (M : List (Str × Addr)) H', M.map (·.1) = L.map (·.1) → Ex H H' → (∀ w, (∀ ns, L.lookup w = some ns → ∃ a, M.lookup w = some a ∧ H' a = some (.lst (ns.map V.int))) ∧ (L.lookup w = none → M.lookup w = none)) → R (M.map fun z => (.str z.1, .ref z.2)) H') →
    tPairs (L.map fun q => (tC (.str q.1), tLst (intsT q.2))) σ H R
  | [], σ, H, R, _, h => h [] H rfl (Ex.refl _) fun w => ⟨fun ns hn => (by cases hn), fun _ => rfl⟩
  | q :: r, σ, H, R, hl, h => by
    show tLst (intsT q.2) σ H fun y H2 => tPairs (r.map fun q => (tC (.str q.1), tLst (intsT q.2))) σ H2 fun ps H3 => R ((.str q.1, y) :: ps) H3
    show intsT q.2 σ H fun xs H1 => xs.length ≤ sizeLine ∧ ∀ p, H1 p = none → _
    refine intsT_go _ _ _ _ ⟨small' (by rw [List.length_map]; have := hl q List.mem_cons_self; omega), fun p hp => ?_⟩
    refine pairsL r σ _ _ (fun x hx => hl x (List.mem_cons_of_mem _ hx)) fun M H' hM e hf => ?_
    refine h ((q.1, p) :: M) H' (by rw [List.map_cons, List.map_cons, hM]) ((Ex.new hp).trans e) fun w => ?_
    rw [List.lookup_cons, List.lookup_cons]
    cases hw : (w == q.1) with
    | true =>
      refine ⟨fun ns hn => ?_, fun hn => (by cases hn)⟩
      cases hn
      exact ⟨p, rfl, e p _ upd_same⟩
    | false => exact hf w
theorem dispL {L : List (Str × List Int)} {σ : L2.St} {H : Hp} {Q : VK} (hn : (L.map (·.1)).Nodup) (hl : L.length ≤ 15) (hs : ∀ q ∈ L, q.2.length ≤ 10) (h : ∀ p H', Ex H H' → DictL H' p L → Q (.ref p) H') :
    tDisp (L.map fun q => (tC (.str q.1), tLst (intsT q.2))) σ H Q := by
  intro p hp
  refine pairsL L σ _ _ hs fun M H' hM e hf => ⟨e p _ upd_same, M.map fun z => ((Sum.inr z.1 : Key), V.ref z.2), ?_, ?_, ?_⟩
  · rw [List.map_map]
    rfl
  · have := congrArg List.length hM
    rw [List.length_map, List.length_map] at this
    rw [List.length_map]
    omega
  · have hnd : ((M.map fun z => ((Sum.inr z.1 : Key), V.ref z.2)).map (·.1)).Nodup := by
      have e1 : (M.map fun z => ((Sum.inr z.1 : Key), V.ref z.2)).map (·.1) = (M.map (·.1)).map fun x => (Sum.inr x : Key) := by rw [List.map_map, List.map_map]; rfl
      rw [e1, hM, List.nodup_iff_pairwise_ne, List.pairwise_map]
      exact (List.nodup_iff_pairwise_ne.mp hn).imp fun {a b} (h : a ≠ b) => (fun z => h (Sum.inr.inj z) : (Sum.inr a : Key) ≠ Sum.inr b)
    rw [merge_nil hnd]
    have e2 : Ex H (upd H' p (.dK (M.map fun z => ((Sum.inr z.1 : Key), V.ref z.2)))) := Ex.mut ((Ex.new hp).trans e) hp
    refine h p _ e2 ⟨_, upd_same, fun w => ⟨fun ns hns => ?_, fun hns => ?_⟩⟩
    · obtain ⟨a, h1, h2⟩ := (hf w).1 ns hns
      refine ⟨a, by rw [valV_look (fun x : Addr => V.ref x), h1]; rfl, ?_⟩
      rw [upd_ne]
      · exact h2
      · intro z
        rw [z, e p _ upd_same] at h2
        cases h2
    · rw [valV_look (fun x : Addr => V.ref x), (hf w).2 hns]
      rfl

end K17

-- text K17Q3
set_option maxHeartbeats 8000000
namespace K17
open PySem PySem.Spec PyProof.Rows L2 Evl
variable {P : Program} {w : World} {K : PySem.W.Frag} {mg : Str → Option Value} {base : Heap} {d : Ad}
/-! ## _law_step_read -/
abbrev BX : List (Str × List Int) := [(Str.ofString "set", [1]), (Str.ofString "add", [1, 2]), (Str.ofString "skip", [1]), (Str.ofString "export", [2]), (Str.ofString "read", [1]), (Str.ofString "try", [2]), (Str.ofString "need", []), (Str.ofString "fail", [])]
abbrev LB : List (Str × List Int) := [(Str.ofString "export", [1]), (Str.ofString "read", [2, 3]), (Str.ofString "need", [1]), (Str.ofString "try", [1])]
abbrev SZ : List (Str × Int) := [(Str.ofString "set", 3), (Str.ofString "add", 3), (Str.ofString "skip", 3), (Str.ofString "export", 3), (Str.ofString "read", 4), (Str.ofString "need", 2), (Str.ofString "try", 3), (Str.ofString "fail", 1)]
def wAt (ws : List Str) (i : Int) : Str := ws.getD i.toNat (Str.ofString "")
def readLw (ws : List Str) : Option (List V) := match ws with
  | [] => none
  | w0 :: r => match SZ.lookup w0 with
    | none => none
    | some n => if ((w0 :: r).length : Int) = n then
        if ((BX.lookup w0).getD []).all (fun i => varB (wAt (w0 :: r) i)) = true then
          if ((LB.lookup w0).getD []).all (fun i => nmB (wAt (w0 :: r) i)) = true then
            if w0 = Str.ofString "set" ∨ w0 = Str.ofString "skip" then
              if numB (tl (wAt (w0 :: r) 2)) = true ∧ ¬ (w0 = Str.ofString "skip" ∧ numI (tl (wAt (w0 :: r) 2)) < 1) then some [.str w0, .str (wAt (w0 :: r) 1), .int (numI (tl (wAt (w0 :: r) 2)))] else none
            else some ((w0 :: r).map V.str)
          else none
        else none
      else none
theorem look_mem {α : Type} {w : Str} {n : α} : ∀ {L : List (Str × α)}, L.lookup w = some n → (w, n) ∈ L
  | [], h => by cases h
  | q :: r, h => by
    rw [List.lookup_cons] at h
    cases hw : (w == q.1) with
    | true =>
      rw [hw] at h
      cases h
      rw [eq_of_beq hw]
      exact List.mem_cons_self
    | false =>
      rw [hw] at h
      exact List.mem_cons_of_mem _ (look_mem h)
theorem sz_case {w : Str} {n : Int} (h : SZ.lookup w = some n) : (w = Str.ofString "set" ∧ n = 3) ∨ (w = Str.ofString "add" ∧ n = 3) ∨ (w = Str.ofString "skip" ∧ n = 3) ∨ (w = Str.ofString "export" ∧ n = 3) ∨ (w = Str.ofString "read" ∧ n = 4) ∨ (w = Str.ofString "need" ∧ n = 2) ∨ (w = Str.ofString "try" ∧ n = 3) ∨ (w = Str.ofString "fail" ∧ n = 1) := by
  have hm := look_mem h
  simp only [List.mem_cons, List.not_mem_nil, or_false, Prod.mk.injEq] at hm
  exact hm
theorem sz_ok : ∀ q ∈ SZ, (BX.lookup q.1).isSome = true ∧ (∀ i ∈ (BX.lookup q.1).getD [], 0 ≤ i ∧ i < q.2) ∧ (∀ i ∈ (LB.lookup q.1).getD [], 0 ≤ i ∧ i < q.2) ∧ ((q.1 = Str.ofString "set" ∨ q.1 = Str.ofString "skip") → q.2 = 3) ∧ 1 ≤ q.2 ∧ q.2 ≤ 4 ∧ SZ.lookup q.1 = some q.2 := by decide +kernel
theorem it_var (a : Str) : itemB (Str.ofString "variable") (convV (Str.ofString "variable") a) = varB a := by
  unfold itemB convV
  rw [if_pos rfl, if_neg (by decide +kernel)]
theorem cv_var (a : Str) : convV (Str.ofString "variable") a = .str a := if_neg (by decide +kernel)
theorem cv_int (a : Str) : convV (Str.ofString "integer") a = numV (tl a) := if_pos (.inl rfl)
theorem cv_amt (a : Str) : convV (Str.ofString "amount") a = numV (tl a) := if_pos (.inr rfl)
theorem cv_mod (a : Str) : convV (Str.ofString "module") a = .str a := if_neg (by decide +kernel)
theorem cv_nam (a : Str) : convV (Str.ofString "name") a = .str a := if_neg (by decide +kernel)
theorem it_int (a : Str) : itemB (Str.ofString "integer") (convV (Str.ofString "integer") a) = numB (tl a) := by
  rw [cv_int]
  unfold itemB numV
  rw [if_neg (by decide +kernel), if_pos rfl]
  cases h : numB (tl a) <;> rfl
theorem it_amt (a : Str) : itemB (Str.ofString "amount") (convV (Str.ofString "amount") a) = (numB (tl a) && decide (1 ≤ numI (tl a))) := by
  rw [cv_amt]
  unfold itemB numV
  rw [if_neg (by decide +kernel), if_neg (by decide +kernel), if_pos rfl]
  cases h : numB (tl a) <;> rfl
theorem it_mod (a : Str) : itemB (Str.ofString "module") (convV (Str.ofString "module") a) = nmB a := by
  rw [cv_mod]
  unfold itemB
  rw [if_neg (by decide +kernel), if_neg (by decide +kernel), if_neg (by decide +kernel)]
theorem it_nam (a : Str) : itemB (Str.ofString "name") (convV (Str.ofString "name") a) = nmB a := by
  rw [cv_nam]
  unfold itemB
  rw [if_neg (by decide +kernel), if_neg (by decide +kernel), if_neg (by decide +kernel)]
theorem form_none {w : Str} (h : SZ.lookup w = none) : formK w = none := by
  have key : ∀ q ∈ FORMS, SZ.lookup q.1 ≠ none := by decide +kernel
  cases hf : formK w with
  | none => rfl
  | some ks => exact absurd h (key _ (look_mem hf))
theorem lw_of {w0 : Str} {r : List Str} {n : Int} (h : SZ.lookup w0 = some n) : readLw (w0 :: r) = (if ((w0 :: r).length : Int) = n then
        if ((BX.lookup w0).getD []).all (fun i => varB (wAt (w0 :: r) i)) = true then
          if ((LB.lookup w0).getD []).all (fun i => nmB (wAt (w0 :: r) i)) = true then
            if w0 = Str.ofString "set" ∨ w0 = Str.ofString "skip" then
              if numB (tl (wAt (w0 :: r) 2)) = true ∧ ¬ (w0 = Str.ofString "skip" ∧ numI (tl (wAt (w0 :: r) 2)) < 1) then some [.str w0, .str (wAt (w0 :: r) 1), .int (numI (tl (wAt (w0 :: r) 2)))] else none
            else some ((w0 :: r).map V.str)
          else none
        else none
      else none) := by
  show (match SZ.lookup w0 with | none => none | some n => _) = _
  rw [h]
theorem wAt1 {w a : Str} {r : List Str} : wAt (w :: a :: r) 1 = a := rfl
theorem wAt2 {w a b : Str} {r : List Str} : wAt (w :: a :: b :: r) 2 = b := rfl
theorem wAt3 {w a b c : Str} {r : List Str} : wAt (w :: a :: b :: c :: r) 3 = c := rfl
theorem sB_cons {k x : Str} {ks xs : List Str} : stepB (k :: ks) (convL (k :: ks) (x :: xs)) = (itemB k (convV k x) && stepB ks (convL ks xs)) := rfl
theorem sB_nil : stepB [] (convL [] []) = true := rfl
theorem cL_cons {k x : Str} {ks xs : List Str} : convL (k :: ks) (x :: xs) = convV k x :: convL ks xs := rfl
theorem cL_nil : convL [] [] = [] := rfl
theorem read_same (ws : List Str) : readLw ws = readW ws := by
  cases ws with
  | nil => rfl
  | cons w0 r =>
    cases hs : SZ.lookup w0 with
    | none =>
      rw [readW_none (form_none hs)]
      show (match SZ.lookup w0 with | none => none | some n => _) = _
      rw [hs]
    | some n =>
      rw [lw_of hs]
      rcases sz_case hs with ⟨rfl, rfl⟩ | ⟨rfl, rfl⟩ | ⟨rfl, rfl⟩ | ⟨rfl, rfl⟩ | ⟨rfl, rfl⟩ | ⟨rfl, rfl⟩ | ⟨rfl, rfl⟩ | ⟨rfl, rfl⟩
      · rw [readW_of (ks := [Str.ofString "variable", Str.ofString "integer"]) (by decide +kernel), show BX.lookup (Str.ofString "set") = some [1] by decide +kernel, show LB.lookup (Str.ofString "set") = none by decide +kernel]
        rw [if_pos (c := Str.ofString "set" = Str.ofString "set" ∨ Str.ofString "set" = Str.ofString "skip") (.inl rfl)]
        match r with
        | [a, b] =>
          simp only [sB_cons, sB_nil, it_var, it_int, it_amt, it_mod, it_nam]
          simp only [Option.getD_some, Option.getD_none, List.all_cons, List.all_nil, wAt1, wAt2, wAt3, cL_cons, cL_nil, cv_var, cv_int, cv_amt, cv_mod, cv_nam, List.map_cons, List.map_nil, List.length_cons, List.length_nil, Bool.and_true, true_and]
          have n1 : ¬ (Str.ofString "set" = Str.ofString "skip") := by decide +kernel
          by_cases h0 : varB a = true <;> by_cases h1 : numB (tl b) = true <;> simp [n1, numV, h0, h1]
        | [] => rw [if_neg (by simp), if_neg (by simp)]
        | [a] => rw [if_neg (by simp), if_neg (by simp)]
        | a :: b :: c :: t => rw [if_neg (by simp; omega), if_neg (by simp)]
      · rw [readW_of (ks := [Str.ofString "variable", Str.ofString "variable"]) (by decide +kernel), show BX.lookup (Str.ofString "add") = some [1, 2] by decide +kernel, show LB.lookup (Str.ofString "add") = none by decide +kernel]
        rw [if_neg (c := Str.ofString "add" = Str.ofString "set" ∨ Str.ofString "add" = Str.ofString "skip") (by decide +kernel)]
        match r with
        | [a, b] =>
          simp only [sB_cons, sB_nil, it_var, it_int, it_amt, it_mod, it_nam]
          simp only [Option.getD_some, Option.getD_none, List.all_cons, List.all_nil, wAt1, wAt2, wAt3, cL_cons, cL_nil, cv_var, cv_int, cv_amt, cv_mod, cv_nam, List.map_cons, List.map_nil, List.length_cons, List.length_nil, Bool.and_true, true_and]
          by_cases h0 : varB a = true <;> by_cases h1 : varB b = true <;> simp [h0, h1]
        | [] => rw [if_neg (by simp), if_neg (by simp)]
        | [a] => rw [if_neg (by simp), if_neg (by simp)]
        | a :: b :: c :: t => rw [if_neg (by simp; omega), if_neg (by simp)]
      · rw [readW_of (ks := [Str.ofString "variable", Str.ofString "amount"]) (by decide +kernel), show BX.lookup (Str.ofString "skip") = some [1] by decide +kernel, show LB.lookup (Str.ofString "skip") = none by decide +kernel]
        rw [if_pos (c := Str.ofString "skip" = Str.ofString "set" ∨ Str.ofString "skip" = Str.ofString "skip") (.inr rfl)]
        match r with
        | [a, b] =>
          simp only [sB_cons, sB_nil, it_var, it_int, it_amt, it_mod, it_nam]
          simp only [Option.getD_some, Option.getD_none, List.all_cons, List.all_nil, wAt1, wAt2, wAt3, cL_cons, cL_nil, cv_var, cv_int, cv_amt, cv_mod, cv_nam, List.map_cons, List.map_nil, List.length_cons, List.length_nil, Bool.and_true, true_and]
          have n2 : (1 ≤ numI (tl b)) ↔ ¬ (numI (tl b) < 1) := by omega
          by_cases h0 : varB a = true <;> by_cases h1 : numB (tl b) = true <;> by_cases h2 : numI (tl b) < 1 <;> simp [n2, numV, h0, h1, h2]
        | [] => rw [if_neg (by simp), if_neg (by simp)]
        | [a] => rw [if_neg (by simp), if_neg (by simp)]
        | a :: b :: c :: t => rw [if_neg (by simp; omega), if_neg (by simp)]
      · rw [readW_of (ks := [Str.ofString "name", Str.ofString "variable"]) (by decide +kernel), show BX.lookup (Str.ofString "export") = some [2] by decide +kernel, show LB.lookup (Str.ofString "export") = some [1] by decide +kernel]
        rw [if_neg (c := Str.ofString "export" = Str.ofString "set" ∨ Str.ofString "export" = Str.ofString "skip") (by decide +kernel)]
        match r with
        | [a, b] =>
          simp only [sB_cons, sB_nil, it_var, it_int, it_amt, it_mod, it_nam]
          simp only [Option.getD_some, Option.getD_none, List.all_cons, List.all_nil, wAt1, wAt2, wAt3, cL_cons, cL_nil, cv_var, cv_int, cv_amt, cv_mod, cv_nam, List.map_cons, List.map_nil, List.length_cons, List.length_nil, Bool.and_true, true_and]
          by_cases h0 : nmB a = true <;> by_cases h1 : varB b = true <;> simp [h0, h1]
        | [] => rw [if_neg (by simp), if_neg (by simp)]
        | [a] => rw [if_neg (by simp), if_neg (by simp)]
        | a :: b :: c :: t => rw [if_neg (by simp; omega), if_neg (by simp)]
      · rw [readW_of (ks := [Str.ofString "variable", Str.ofString "module", Str.ofString "name"]) (by decide +kernel), show BX.lookup (Str.ofString "read") = some [1] by decide +kernel, show LB.lookup (Str.ofString "read") = some [2, 3] by decide +kernel]
        rw [if_neg (c := Str.ofString "read" = Str.ofString "set" ∨ Str.ofString "read" = Str.ofString "skip") (by decide +kernel)]
        match r with
        | [a, b, c] =>
          simp only [sB_cons, sB_nil, it_var, it_int, it_amt, it_mod, it_nam]
          simp only [Option.getD_some, Option.getD_none, List.all_cons, List.all_nil, wAt1, wAt2, wAt3, cL_cons, cL_nil, cv_var, cv_int, cv_amt, cv_mod, cv_nam, List.map_cons, List.map_nil, List.length_cons, List.length_nil, Bool.and_true, true_and]
          by_cases h0 : varB a = true <;> by_cases h1 : nmB b = true <;> by_cases h2 : nmB c = true <;> simp [h0, h1, h2]
        | [] => rw [if_neg (by simp), if_neg (by simp)]
        | [a] => rw [if_neg (by simp), if_neg (by simp)]
        | [a, b] => rw [if_neg (by simp), if_neg (by simp)]
        | a :: b :: c :: e :: t => rw [if_neg (by simp; omega), if_neg (by simp)]
      · rw [readW_of (ks := [Str.ofString "module"]) (by decide +kernel), show BX.lookup (Str.ofString "need") = some [] by decide +kernel, show LB.lookup (Str.ofString "need") = some [1] by decide +kernel]
        rw [if_neg (c := Str.ofString "need" = Str.ofString "set" ∨ Str.ofString "need" = Str.ofString "skip") (by decide +kernel)]
        match r with
        | [a] =>
          simp only [sB_cons, sB_nil, it_var, it_int, it_amt, it_mod, it_nam]
          simp only [Option.getD_some, Option.getD_none, List.all_cons, List.all_nil, wAt1, wAt2, wAt3, cL_cons, cL_nil, cv_var, cv_int, cv_amt, cv_mod, cv_nam, List.map_cons, List.map_nil, List.length_cons, List.length_nil, Bool.and_true, true_and]
          by_cases h0 : nmB a = true <;> simp [h0]
        | [] => rw [if_neg (by simp), if_neg (by simp)]
        | a :: b :: t => rw [if_neg (by simp; omega), if_neg (by simp)]
      · rw [readW_of (ks := [Str.ofString "module", Str.ofString "variable"]) (by decide +kernel), show BX.lookup (Str.ofString "try") = some [2] by decide +kernel, show LB.lookup (Str.ofString "try") = some [1] by decide +kernel]
        rw [if_neg (c := Str.ofString "try" = Str.ofString "set" ∨ Str.ofString "try" = Str.ofString "skip") (by decide +kernel)]
        match r with
        | [a, b] =>
          simp only [sB_cons, sB_nil, it_var, it_int, it_amt, it_mod, it_nam]
          simp only [Option.getD_some, Option.getD_none, List.all_cons, List.all_nil, wAt1, wAt2, wAt3, cL_cons, cL_nil, cv_var, cv_int, cv_amt, cv_mod, cv_nam, List.map_cons, List.map_nil, List.length_cons, List.length_nil, Bool.and_true, true_and]
          by_cases h0 : nmB a = true <;> by_cases h1 : varB b = true <;> simp [h0, h1]
        | [] => rw [if_neg (by simp), if_neg (by simp)]
        | [a] => rw [if_neg (by simp), if_neg (by simp)]
        | a :: b :: c :: t => rw [if_neg (by simp; omega), if_neg (by simp)]
      · rw [readW_of (ks := []) (by decide +kernel), show BX.lookup (Str.ofString "fail") = some [] by decide +kernel, show LB.lookup (Str.ofString "fail") = none by decide +kernel]
        rw [if_neg (c := Str.ofString "fail" = Str.ofString "set" ∨ Str.ofString "fail" = Str.ofString "skip") (by decide +kernel)]
        match r with
        | [] =>
          simp only [sB_cons, sB_nil, it_var, it_int, it_amt, it_mod, it_nam]
          simp only [Option.getD_some, Option.getD_none, List.all_cons, List.all_nil, wAt1, wAt2, wAt3, cL_cons, cL_nil, cv_var, cv_int, cv_amt, cv_mod, cv_nam, List.map_cons, List.map_nil, List.length_cons, List.length_nil, Bool.and_true, true_and]
          simp
        | a :: t => rw [if_neg (by simp; omega), if_neg (by simp)]

end K17

-- text K17Q4
set_option maxHeartbeats 8000000
namespace K17
open PySem PySem.Spec PyProof.Rows L2 Evl
variable {P : Program} {w : World} {K : PySem.W.Frag} {mg : Str → Option Value} {base : Heap} {d : Ad}
/-! ## _law_step_read: the walk -/
def NotInR (y : V) (x : V) (H2 : Hp) (Q : VK) : Prop := ∃ (a : Addr) (o : Option V), x = .ref a ∧ DGet H2 a y o ∧ Q (.bl (!o.isSome)) H2
theorem tDNotIn_eq {td ty : TE} {σ : L2.St} {H : Hp} {Q : VK} : tDNotIn ty td σ H Q = ty σ H (fun y H1 => td σ H1 (fun x H2 => NotInR y x H2 Q)) := rfl
theorem notInR {y : V} {o : Option V} {a : Addr} {H2 : Hp} {Q : VK} (h : DGet H2 a y o) (q : Q (.bl (!o.isSome)) H2) : NotInR y (.ref a) H2 Q := ⟨a, o, rfl, h, q⟩
def Get2R (σ : L2.St) (ty tx : TE) (x : V) (H1 : Hp) (Q : VK) : Prop := ∃ a, x = .ref a ∧ IsD H1 a ∧ ty σ H1 fun y H2 => tx σ H2 fun z H3 => ∃ o, DGet H3 a y o ∧ Q (o.getD z) H3
theorem tDGet2_eq {td ty tx : TE} {σ : L2.St} {H : Hp} {Q : VK} : tDGet2 td ty tx σ H Q = td σ H (fun x H1 => Get2R σ ty tx x H1 Q) := rfl
def spRead : Sp := fun vs H Q _ => ∃ x : Str, vs = [.str x] ∧ x.length ≤ 2000000 ∧ (∀ y ∈ wordsS x, y.length ≤ 30) ∧
  (∀ items, readW (wordsS x) = some items → ∀ p H', Ex H H' → H' p = some (.tup items) → Q (.ref p) H') ∧ (readW (wordsS x) = none → ∀ H', Ex H H' → Q .non H')
theorem wAt_ok {ws : List Str} {i : Int} (h0 : 0 ≤ i) (h1 : i < (ws.length : Int)) : atI (ws.map V.str) i = some (.str (wAt ws i)) ∧ wAt ws i ∈ ws := by
  obtain ⟨n, rfl⟩ : ∃ n : Nat, i = (n : Int) := ⟨i.toNat, by omega⟩
  have hn : n < ws.length := by omega
  have e : wAt ws (n : Int) = ws[n] := by
    unfold wAt
    rw [Int.toNat_natCast, List.getD_eq_getElem?_getD, List.getElem?_eq_getElem hn]
    rfl
  refine ⟨atN ?_, ?_⟩
  · rw [List.getElem?_map, List.getElem?_eq_getElem hn, e]
    rfl
  · rw [e]
    exact List.getElem_mem hn
theorem o__law_step_read (T : Tx w K mg d) (F : Fd K mg "_law_step_read" s_L_step_read []) (o__law_is_label : Ok0 P w K mg base 3 "_law_is_label" ["_law_thing"] spLabel) (o__law_is_number : Ok0 P w K mg base 3 "_law_is_number" ["_law_word_here"] spNumber) : Ok0 P w K mg base 4 "_law_step_read" ["_law_shown"] spRead := by
  refine mkOk 3 F sc_L_step_read (fun _ _ _ _ _ _ us hl => match us, hl with | [_], _ => rfl) (fun vs H Q E h => by obtain ⟨x, rfl, _⟩ := h; rfl) fun f cdv A outer s H vs Q E hr h => ?_
  obtain ⟨x, rfl, hx, hw, hQ, hN⟩ := h
  refine ⟨_, PSs.nox (pss_cut (ps_set (i := 1) sc_L_step_read.nd rfl (.inr rfl) (pe_split (pv 0) pe_str))
    (pss_cut (ps_set (i := 2) sc_L_step_read.nd rfl (.inl rfl) (pe_disp (pps_cons pe_str (pe_lst (pa_cons pe_int pa_nil)) (pps_cons pe_str (pe_lst (pa_cons pe_int (pa_cons pe_int pa_nil))) (pps_cons pe_str (pe_lst (pa_cons pe_int pa_nil)) (pps_cons pe_str (pe_lst (pa_cons pe_int pa_nil)) (pps_cons pe_str (pe_lst (pa_cons pe_int pa_nil)) (pps_cons pe_str (pe_lst (pa_cons pe_int pa_nil)) (pps_cons pe_str (pe_lst pa_nil) (pps_cons pe_str (pe_lst pa_nil) pps_nil)))))))) (by rfl) (by rfl) (fun z => by cases z) (by decide)))
    (pss_cut (ps_set (i := 3) sc_L_step_read.nd rfl (.inl rfl) (pe_disp (pps_cons pe_str (pe_lst (pa_cons pe_int pa_nil)) (pps_cons pe_str (pe_lst (pa_cons pe_int (pa_cons pe_int pa_nil))) (pps_cons pe_str (pe_lst (pa_cons pe_int pa_nil)) (pps_cons pe_str (pe_lst (pa_cons pe_int pa_nil)) pps_nil)))) (by rfl) (by rfl) (fun z => by cases z) (by decide)))
    (pss_cut (ps_set (i := 4) sc_L_step_read.nd rfl (.inl rfl) (pe_disp (pps_cons pe_str pe_int (pps_cons pe_str pe_int (pps_cons pe_str pe_int (pps_cons pe_str pe_int (pps_cons pe_str pe_int (pps_cons pe_str pe_int (pps_cons pe_str pe_int (pps_cons pe_str pe_int pps_nil)))))))) (by rfl) (by rfl) (fun z => by cases z) (by decide)))
    (pss_cons (ps_if (PW.pt (pw_or (pt_cmp (pc_dnotin (hu_of hr) (pe_ix ix_list (pv 1) pe_int (fun _ _ => rfl)) (pv 4))) (pw_or1 (pt_cmpR op_ne (pe_callB call_len_seq (by rfl) T.b_len (by decide +kernel) (pa_cons (pv 1) pa_nil)) (pe_dget (hu_of hr) (pv 4) (pe_ix ix_list (pv 1) pe_int (fun _ _ => rfl)) (fun _ _ => rfl)) (nomark _))))) (pss_one (ps_ret pe_non)) pss_nil)
    (pss_cons (ps_if (pt_not (pt_val (pe_callB (cr_all rfl) (by rfl) T.b_all (by decide +kernel) (pa_cons (pe_lc (own := [("_law_at", 5)]) rfl sc_L_step_read.nd (pi_list (pe_dget (hu_of hr) (pv 2) (pe_ix ix_list (pv 1) pe_int (fun _ _ => rfl)) (fun _ _ => rfl))) (blkOk_by (own := [("_law_at", 5)]) (N := n_L_step_read) (sc := defScope s_L_step_read) (by decide +kernel)) (fun _ _ _ _ _ => (pg_name (i := 5) sc_L_step_read.nd rfl (Or.inl rfl))) (fun _ _ _ _ _ => pts_nil) (fun _ _ _ _ _ => (pe_cmpR (op_in_seqB K) (pe_ix (ix_listB K) (pv 1) (pv 5) (fun _ _ => rfl)) (pe_tup (pa_cons pe_str (pa_cons pe_str (pa_cons pe_str (pa_cons pe_str pa_nil))))) (by rfl)))) pa_nil)))) (pss_one (ps_ret pe_non)) pss_nil)
    (pss_cons (ps_if (pt_not (pt_val (pe_callB (cr_all rfl) (by rfl) T.b_all (by decide +kernel) (pa_cons (pe_lc (own := [("_law_at", 5)]) rfl sc_L_step_read.nd (pi_list (pe_dget2 (hu_of hr) (pv 3) (pe_ix ix_list (pv 1) pe_int (fun _ _ => rfl)) (pe_lst pa_nil) ⟨by rfl, by rfl, by rfl, by rfl⟩)) (blkOk_by (own := [("_law_at", 5)]) (N := n_L_step_read) (sc := defScope s_L_step_read) (by decide +kernel)) (fun _ _ _ _ _ => (pg_name (i := 5) sc_L_step_read.nd rfl (Or.inl rfl))) (fun _ _ _ _ _ => pts_nil) (fun _ _ _ _ _ => (pe_c o__law_is_label (hr.mono (by decide)) pass0 (pa_cons (pe_ix (ix_listB K) (pv 1) (pv 5) (fun _ _ => rfl)) pa_nil)))) pa_nil)))) (pss_one (ps_ret pe_non)) pss_nil)
    (pss_cons (ps_if (pt_cmpR op_notIn_seq (pe_ix ix_list (pv 1) pe_int (fun _ _ => rfl)) (pe_tup (pa_cons pe_str (pa_cons pe_str pa_nil))) (by rfl)) (pss_one (ps_ret (pe_callTy call_tuple_of (by rfl) T.b_tuple (by decide +kernel) (pa_cons (pv 1) pa_nil)))) pss_nil)
    (pss_cons (ps_if (PW.pt (pw_or (pt_not (pt_val (pe_c o__law_is_number (hr.mono (by decide)) pass0 (pa_cons (pe_ix ix_list (pv 1) pe_int (fun _ _ => rfl)) pa_nil)))) (pw_or1 (PW.pt (pw_and (pt_cmpR op_eq (pe_ix ix_list (pv 1) pe_int (fun _ _ => rfl)) pe_str (nomark _)) (pw_and1 (pt_cmpR op_lt (pe_callTy call_int_str (by rfl) T.b_int (by decide +kernel) (pa_cons (pe_ix ix_list (pv 1) pe_int (fun _ _ => rfl)) pa_nil)) pe_int (nomark _)))))))) (pss_one (ps_ret pe_non)) pss_nil)
    (pss_one (ps_ret (pe_tup (pa_cons (pe_ix ix_list (pv 1) pe_int (fun _ _ => rfl)) (pa_cons (pe_ix ix_list (pv 1) pe_int (fun _ _ => rfl)) (pa_cons (pe_callTy call_int_str (by rfl) T.b_int (by decide +kernel) (pa_cons (pe_ix ix_list (pv 1) pe_int (fun _ _ => rfl)) pa_nil)) pa_nil))))))))))))))), ?_⟩
  try simp only [n_L_step_read, L2.start, cxK, cxW, cxK', cxW', is_ss, is_si, is_ii, is_ib, is_is, is_bs, is_ns, is_ni, is_nt, Bool.not_false, Bool.not_true, tSeq, tIfS, tRet, tRetN, tNext, tNever, tAsg, gName, tVar, tC, tOp, tUn, tCons, tNil, tCB, tCall, tTest, tB, tAnd, tOr, tNot, tAndV, tOrV, tNotV, tIf, tChain, rI0, rI, rU, rEq, rNe, List.map_cons, List.map_nil, List.length_cons, List.length_nil, List.replicate, List.cons_append, List.nil_append, List.append_nil, List.getElem?_cons_zero, List.getElem?_cons_succ, List.set_cons_zero, List.set_cons_succ, Option.some.injEq, exists_eq_left', exists_eq_left, exists_eq_right, V.str.injEq, V.int.injEq, V.bl.injEq, V.ref.injEq, V.ty.injEq, List.cons.injEq, and_true, true_and, exists_and_left, Nat.zero_add, Nat.add_sub_cancel, Nat.sub_self, Nat.succ_sub_succ_eq_sub, Nat.reduceSub, Nat.reduceAdd, Nat.sub_zero, tYes, tSl, tPart, tNoPart, if_true, Bool.false_eq_true, if_false, reduceCtorEq, false_and, exists_false, or_false, false_or, scal, tLc_eq, tFor_eq, iStr, iList, iTup, RZ.iZipA, decide_false, decide_true, tM1, tM0, tDrop, tAug, ipI]
  have e6 : (Str.ofString " ").length = 1 := by decide +kernel
  refine ⟨fun σ' H' => ∃ wp, σ' = [some (V.str x), some (V.ref wp), none, none, none, none] ∧ Ex H H' ∧ H' wp = some (.lst ((wordsS x).map V.str)), ?_, ?_⟩
  · try simp only [rNewStrs, is_ss, is_si, is_ii, is_ib, is_is, is_bs, is_ns, is_ni, is_nt, Bool.not_false, Bool.not_true, tSeq, tIfS, tRet, tRetN, tNext, tNever, tAsg, gName, tVar, tC, tOp, tUn, tCons, tNil, tCB, tCall, tTest, tB, tAnd, tOr, tNot, tAndV, tOrV, tNotV, tIf, tChain, rI0, rI, rU, rEq, rNe, List.map_cons, List.map_nil, List.length_cons, List.length_nil, List.replicate, List.cons_append, List.nil_append, List.append_nil, List.getElem?_cons_zero, List.getElem?_cons_succ, List.set_cons_zero, List.set_cons_succ, Option.some.injEq, exists_eq_left', exists_eq_left, exists_eq_right, V.str.injEq, V.int.injEq, V.bl.injEq, V.ref.injEq, V.ty.injEq, List.cons.injEq, and_true, true_and, exists_and_left, Nat.zero_add, Nat.add_sub_cancel, Nat.sub_self, Nat.succ_sub_succ_eq_sub, Nat.reduceSub, Nat.reduceAdd, Nat.sub_zero, tYes, tSl, tPart, tNoPart, if_true, Bool.false_eq_true, if_false, reduceCtorEq, false_and, exists_false, or_false, false_or, scal, tLc_eq, tFor_eq, iStr, iList, iTup, RZ.iZipA, decide_false, decide_true, tM1, tM0, tDrop, tAug, ipI]
    exact ⟨⟨_, rfl⟩, by rw [e6]; rfl, small' (by omega), fun p hp => ⟨Ex.new hp, upd_same⟩⟩
  rintro σ' H1 ⟨wp, rfl, e1, h1⟩
  refine ⟨fun σ' H' => ∃ bp, σ' = [some (V.str x), some (V.ref wp), some (V.ref bp), none, none, none] ∧ Ex H1 H' ∧ DictL H' bp BX, ?_, ?_⟩
  · exact dispL (L := BX) (by decide +kernel) (by decide) (by decide) fun p H' e hd => ⟨p, rfl, e, hd⟩
  rintro σ' H2 ⟨bp, rfl, e2, d2⟩
  refine ⟨fun σ' H' => ∃ lp, σ' = [some (V.str x), some (V.ref wp), some (V.ref bp), some (V.ref lp), none, none] ∧ Ex H2 H' ∧ DictL H' lp LB, ?_, ?_⟩
  · exact dispL (L := LB) (by decide +kernel) (by decide) (by decide) fun p H' e hd => ⟨p, rfl, e, hd⟩
  rintro σ' H3 ⟨lp, rfl, e3, d3⟩
  refine ⟨fun σ' H' => ∃ sp, σ' = [some (V.str x), some (V.ref wp), some (V.ref bp), some (V.ref lp), some (V.ref sp), none] ∧ Ex H3 H' ∧ H' sp = some (.dK (SZ.map fun q => ((Sum.inr q.1 : Key), V.int q.2))), ?_, ?_⟩
  · intro p hp
    refine ⟨upd_same, SZ.map fun q => ((Sum.inr q.1 : Key), V.int q.2), rfl, by decide, ?_⟩
    rw [merge_nil (by decide +kernel)]
    exact ⟨p, rfl, Ex.mut (Ex.new hp) hp, upd_same⟩
  rintro σ' H4 ⟨sp, rfl, e4, d4⟩
  have d2' := d2.mono (e3.trans e4)
  have d3' := d3.mono e4
  have h4 := ((e2.trans e3).trans e4) wp _ h1
  have e04 := ((e1.trans e2).trans e3).trans e4
  clear e1 e2 e3 e4 d2 d3 h1
  try simp only [tDNotIn_eq, tDGet_eq, tDGet2_eq, is_ss, is_si, is_ii, is_ib, is_is, is_bs, is_ns, is_ni, is_nt, Bool.not_false, Bool.not_true, tSeq, tIfS, tRet, tRetN, tNext, tNever, tAsg, gName, tVar, tC, tOp, tUn, tCons, tNil, tCB, tCall, tTest, tB, tAnd, tOr, tNot, tAndV, tOrV, tNotV, tIf, tChain, rI0, rI, rU, rEq, rNe, List.map_cons, List.map_nil, List.length_cons, List.length_nil, List.replicate, List.cons_append, List.nil_append, List.append_nil, List.getElem?_cons_zero, List.getElem?_cons_succ, List.set_cons_zero, List.set_cons_succ, Option.some.injEq, exists_eq_left', exists_eq_left, exists_eq_right, V.str.injEq, V.int.injEq, V.bl.injEq, V.ref.injEq, V.ty.injEq, List.cons.injEq, and_true, true_and, exists_and_left, Nat.zero_add, Nat.add_sub_cancel, Nat.sub_self, Nat.succ_sub_succ_eq_sub, Nat.reduceSub, Nat.reduceAdd, Nat.sub_zero, tYes, tSl, tPart, tNoPart, if_true, Bool.false_eq_true, if_false, reduceCtorEq, false_and, exists_false, or_false, false_or, scal, tLc_eq, tFor_eq, iStr, iList, iTup, RZ.iZipA, decide_false, decide_true, tM1, tM0, tDrop, tAug, ipI]
  obtain ⟨w0, r, hws⟩ : ∃ w0 r, wordsS x = w0 :: r := by
    cases q : wordsS x with
    | nil => exact absurd q (wordsS_ne x)
    | cons a b => exact ⟨a, b, rfl⟩
  rw [← read_same] at hQ hN
  rw [hws] at h4 hQ hN hw
  have ws0 : atI ((w0 :: r).map V.str) 0 = some (.str w0) := at0
  refine ixL (SqL.of h4) ws0 ?_
  try simp only [is_ss, is_si, is_ii, is_ib, is_is, is_bs, is_ns, is_ni, is_nt, Bool.not_false, Bool.not_true, tSeq, tIfS, tRet, tRetN, tNext, tNever, tAsg, gName, tVar, tC, tOp, tUn, tCons, tNil, tCB, tCall, tTest, tB, tAnd, tOr, tNot, tAndV, tOrV, tNotV, tIf, tChain, rI0, rI, rU, rEq, rNe, List.map_cons, List.map_nil, List.length_cons, List.length_nil, List.replicate, List.cons_append, List.nil_append, List.append_nil, List.getElem?_cons_zero, List.getElem?_cons_succ, List.set_cons_zero, List.set_cons_succ, Option.some.injEq, exists_eq_left', exists_eq_left, exists_eq_right, V.str.injEq, V.int.injEq, V.bl.injEq, V.ref.injEq, V.ty.injEq, List.cons.injEq, and_true, true_and, exists_and_left, Nat.zero_add, Nat.add_sub_cancel, Nat.sub_self, Nat.succ_sub_succ_eq_sub, Nat.reduceSub, Nat.reduceAdd, Nat.sub_zero, tYes, tSl, tPart, tNoPart, if_true, Bool.false_eq_true, if_false, reduceCtorEq, false_and, exists_false, or_false, false_or, scal, tLc_eq, tFor_eq, iStr, iList, iTup, RZ.iZipA, decide_false, decide_true, tM1, tM0, tDrop, tAug, ipI]
  have hd : ∀ H', Ex H4 H' → DGet H' sp (.str w0) ((SZ.lookup w0).map V.int) := fun H' e => by
    have q := DGet.k (k := Sum.inr w0) (e sp _ d4)
    rw [valV_look (fun n : Int => V.int n)] at q
    exact q
  refine notInR (hd H4 (Ex.refl _)) ?_
  try simp only [is_ss, is_si, is_ii, is_ib, is_is, is_bs, is_ns, is_ni, is_nt, Bool.not_false, Bool.not_true, tSeq, tIfS, tRet, tRetN, tNext, tNever, tAsg, gName, tVar, tC, tOp, tUn, tCons, tNil, tCB, tCall, tTest, tB, tAnd, tOr, tNot, tAndV, tOrV, tNotV, tIf, tChain, rI0, rI, rU, rEq, rNe, List.map_cons, List.map_nil, List.length_cons, List.length_nil, List.replicate, List.cons_append, List.nil_append, List.append_nil, List.getElem?_cons_zero, List.getElem?_cons_succ, List.set_cons_zero, List.set_cons_succ, Option.some.injEq, exists_eq_left', exists_eq_left, exists_eq_right, V.str.injEq, V.int.injEq, V.bl.injEq, V.ref.injEq, V.ty.injEq, List.cons.injEq, and_true, true_and, exists_and_left, Nat.zero_add, Nat.add_sub_cancel, Nat.sub_self, Nat.succ_sub_succ_eq_sub, Nat.reduceSub, Nat.reduceAdd, Nat.sub_zero, tYes, tSl, tPart, tNoPart, if_true, Bool.false_eq_true, if_false, reduceCtorEq, false_and, exists_false, or_false, false_or, scal, tLc_eq, tFor_eq, iStr, iList, iTup, RZ.iZipA, decide_false, decide_true, tM1, tM0, tDrop, tAug, ipI]
  cases hs : SZ.lookup w0 with
  | none =>
    exact hN (by show (match SZ.lookup w0 with | none => none | some n => _) = _; rw [hs]) H4 e04
  | some n =>
    obtain ⟨s1, s2, s3, s4, s5, s6, s7⟩ := sz_ok _ (look_mem hs)
    rw [hs] at hd
    rw [lw_of hs] at hQ hN
    try simp only [Option.map_some, Option.isSome_some, is_ss, is_si, is_ii, is_ib, is_is, is_bs, is_ns, is_ni, is_nt, Bool.not_false, Bool.not_true, tSeq, tIfS, tRet, tRetN, tNext, tNever, tAsg, gName, tVar, tC, tOp, tUn, tCons, tNil, tCB, tCall, tTest, tB, tAnd, tOr, tNot, tAndV, tOrV, tNotV, tIf, tChain, rI0, rI, rU, rEq, rNe, List.map_cons, List.map_nil, List.length_cons, List.length_nil, List.replicate, List.cons_append, List.nil_append, List.append_nil, List.getElem?_cons_zero, List.getElem?_cons_succ, List.set_cons_zero, List.set_cons_succ, Option.some.injEq, exists_eq_left', exists_eq_left, exists_eq_right, V.str.injEq, V.int.injEq, V.bl.injEq, V.ref.injEq, V.ty.injEq, List.cons.injEq, and_true, true_and, exists_and_left, Nat.zero_add, Nat.add_sub_cancel, Nat.sub_self, Nat.succ_sub_succ_eq_sub, Nat.reduceSub, Nat.reduceAdd, Nat.sub_zero, tYes, tSl, tPart, tNoPart, if_true, Bool.false_eq_true, if_false, reduceCtorEq, false_and, exists_false, or_false, false_or, scal, tLc_eq, tFor_eq, iStr, iList, iTup, RZ.iZipA, decide_false, decide_true, tM1, tM0, tDrop, tAug, ipI]
    refine ⟨_, .inl (SqL.of h4), ixL (SqL.of h4) ws0 ?_⟩
    try simp only [is_ss, is_si, is_ii, is_ib, is_is, is_bs, is_ns, is_ni, is_nt, Bool.not_false, Bool.not_true, tSeq, tIfS, tRet, tRetN, tNext, tNever, tAsg, gName, tVar, tC, tOp, tUn, tCons, tNil, tCB, tCall, tTest, tB, tAnd, tOr, tNot, tAndV, tOrV, tNotV, tIf, tChain, rI0, rI, rU, rEq, rNe, List.map_cons, List.map_nil, List.length_cons, List.length_nil, List.replicate, List.cons_append, List.nil_append, List.append_nil, List.getElem?_cons_zero, List.getElem?_cons_succ, List.set_cons_zero, List.set_cons_succ, Option.some.injEq, exists_eq_left', exists_eq_left, exists_eq_right, V.str.injEq, V.int.injEq, V.bl.injEq, V.ref.injEq, V.ty.injEq, List.cons.injEq, and_true, true_and, exists_and_left, Nat.zero_add, Nat.add_sub_cancel, Nat.sub_self, Nat.succ_sub_succ_eq_sub, Nat.reduceSub, Nat.reduceAdd, Nat.sub_zero, tYes, tSl, tPart, tNoPart, if_true, Bool.false_eq_true, if_false, reduceCtorEq, false_and, exists_false, or_false, false_or, scal, tLc_eq, tFor_eq, iStr, iList, iTup, RZ.iZipA, decide_false, decide_true, tM1, tM0, tDrop, tAug, ipI]
    refine getR (hd H4 (Ex.refl _)) ⟨rfl, ?_⟩
    try simp only [List.length_map, is_ss, is_si, is_ii, is_ib, is_is, is_bs, is_ns, is_ni, is_nt, Bool.not_false, Bool.not_true, tSeq, tIfS, tRet, tRetN, tNext, tNever, tAsg, gName, tVar, tC, tOp, tUn, tCons, tNil, tCB, tCall, tTest, tB, tAnd, tOr, tNot, tAndV, tOrV, tNotV, tIf, tChain, rI0, rI, rU, rEq, rNe, List.map_cons, List.map_nil, List.length_cons, List.length_nil, List.replicate, List.cons_append, List.nil_append, List.append_nil, List.getElem?_cons_zero, List.getElem?_cons_succ, List.set_cons_zero, List.set_cons_succ, Option.some.injEq, exists_eq_left', exists_eq_left, exists_eq_right, V.str.injEq, V.int.injEq, V.bl.injEq, V.ref.injEq, V.ty.injEq, List.cons.injEq, and_true, true_and, exists_and_left, Nat.zero_add, Nat.add_sub_cancel, Nat.sub_self, Nat.succ_sub_succ_eq_sub, Nat.reduceSub, Nat.reduceAdd, Nat.sub_zero, tYes, tSl, tPart, tNoPart, if_true, Bool.false_eq_true, if_false, reduceCtorEq, false_and, exists_false, or_false, false_or, scal, tLc_eq, tFor_eq, iStr, iList, iTup, RZ.iZipA, decide_false, decide_true, tM1, tM0, tDrop, tAug, ipI]
    have s2' : ∀ i ∈ (BX.lookup w0).getD [], 0 ≤ i ∧ i < n := s2
    have s3' : ∀ i ∈ (LB.lookup w0).getD [], 0 ≤ i ∧ i < n := s3
    have s4' : (w0 = Str.ofString "set" ∨ w0 = Str.ofString "skip") → n = 3 := s4
    have s5' : 1 ≤ n := s5
    have s6' : n ≤ 4 := s6
    clear s1 s2 s3 s4 s5 s6 s7
    by_cases hn : ((w0 :: r).length : Int) = n
    rotate_left
    · rw [if_pos (by rw [List.length_cons] at hn; simp only [Bool.not_eq_true', decide_eq_false_iff_not]; exact hn)]
      exact hN (if_neg hn) H4 e04
    rw [if_neg (by rw [List.length_cons] at hn; simp only [Bool.not_eq_true', decide_eq_false_iff_not]; exact fun z => z hn)]
    rw [if_pos hn] at hQ hN
    refine ixL (SqL.of h4) ws0 ?_
    obtain ⟨kb, hkb1, hkb2⟩ := id d2'
    have hbx : ∃ ns, BX.lookup w0 = some ns ∧ (BX.lookup w0).getD [] = ns := by
      rcases sz_case hs with ⟨rfl, _⟩ | ⟨rfl, _⟩ | ⟨rfl, _⟩ | ⟨rfl, _⟩ | ⟨rfl, _⟩ | ⟨rfl, _⟩ | ⟨rfl, _⟩ | ⟨rfl, _⟩
      · exact ⟨[1], by decide +kernel, by decide +kernel⟩
      · exact ⟨[1, 2], by decide +kernel, by decide +kernel⟩
      · exact ⟨[1], by decide +kernel, by decide +kernel⟩
      · exact ⟨[2], by decide +kernel, by decide +kernel⟩
      · exact ⟨[1], by decide +kernel, by decide +kernel⟩
      · exact ⟨[], by decide +kernel, by decide +kernel⟩
      · exact ⟨[2], by decide +kernel, by decide +kernel⟩
      · exact ⟨[], by decide +kernel, by decide +kernel⟩
    obtain ⟨ns, hns, hns2⟩ := hbx
    rw [hns2] at hQ hN s2'
    obtain ⟨ba, hba1, hba2⟩ := (hkb2 w0).1 ns hns
    have hgb : DGet H4 bp (.str w0) (some (.ref ba)) := by
      have q := DGet.k (k := Sum.inr w0) hkb1
      rw [hba1] at q
      exact q
    refine getR hgb ⟨ba, rfl, ⟨_, SqL.of hba2⟩, ?_⟩
    have hwl : ∀ y ∈ (w0 :: r), y.length ≤ 30 := hw
    have hnsl : ns.length < sizeLine := by
      have hm := look_mem hns
      have key : ∀ q ∈ BX, q.2.length ≤ 2 := by decide
      have h2 : ns.length ≤ 2 := key _ hm
      exact small (by omega)
    refine lcMA (gv := V.int) (goes_list (xs := ns.map V.int) (by rw [List.length_map]; exact hnsl)) (fun H' e => SqL.of (e ba _ hba2)) (fun i => .bl (varB (wAt (w0 :: r) i))) (fun i hi H5 e5 Q' q' => ?_) (fun D H5 hD e5 h5 => ?_) (fun _ => rfl)
    · try simp only [wipe, tTup, is_ss, is_si, is_ii, is_ib, is_is, is_bs, is_ns, is_ni, is_nt, Bool.not_false, Bool.not_true, tSeq, tIfS, tRet, tRetN, tNext, tNever, tAsg, gName, tVar, tC, tOp, tUn, tCons, tNil, tCB, tCall, tTest, tB, tAnd, tOr, tNot, tAndV, tOrV, tNotV, tIf, tChain, rI0, rI, rU, rEq, rNe, List.map_cons, List.map_nil, List.length_cons, List.length_nil, List.replicate, List.cons_append, List.nil_append, List.append_nil, List.getElem?_cons_zero, List.getElem?_cons_succ, List.set_cons_zero, List.set_cons_succ, Option.some.injEq, exists_eq_left', exists_eq_left, exists_eq_right, V.str.injEq, V.int.injEq, V.bl.injEq, V.ref.injEq, V.ty.injEq, List.cons.injEq, and_true, true_and, exists_and_left, Nat.zero_add, Nat.add_sub_cancel, Nat.sub_self, Nat.succ_sub_succ_eq_sub, Nat.reduceSub, Nat.reduceAdd, Nat.sub_zero, tYes, tSl, tPart, tNoPart, if_true, Bool.false_eq_true, if_false, reduceCtorEq, false_and, exists_false, or_false, false_or, scal, tLc_eq, tFor_eq, iStr, iList, iTup, RZ.iZipA, decide_false, decide_true, tM1, tM0, tDrop, tAug, ipI]
      obtain ⟨i0, i1⟩ := s2' i hi
      refine ixL (SqL.of (e5 wp _ h4)) (wAt_ok i0 (by rw [hn]; exact i1)).1 ?_
      refine ⟨Nat.le_of_ble_eq_true rfl, fun tp htp => ?_⟩
      exact inQ (.inr (SqT.of upd_same)) rfl rfl (q' _ (Ex.new htp))
    refine allQ (bs := ns.map fun i => varB (wAt (w0 :: r) i)) (by rw [h5, List.map_map]; rfl) ⟨_, rfl, ?_⟩
    have ea1 : (ns.map fun i => varB (wAt (w0 :: r) i)).all id = ns.all (fun i => varB (wAt (w0 :: r) i)) := by rw [List.all_map]; rfl
    rw [ea1]
    cases hav : ns.all (fun i => varB (wAt (w0 :: r) i)) with
    | false =>
      rw [if_pos (by rfl)]
      exact hN (if_neg (by rw [hav]; decide)) H5 (e04.trans e5)
    | true =>
      rw [if_neg (by decide)]
      rw [if_pos hav] at hQ hN
      -- labels
      obtain ⟨kl, hkl1, hkl2⟩ := d3'.mono e5
      have h5w := e5 wp _ h4
      refine ⟨lp, rfl, .inl ⟨kl, Rd.of hkl1⟩, ?_⟩
      try simp only [tLst, is_ss, is_si, is_ii, is_ib, is_is, is_bs, is_ns, is_ni, is_nt, Bool.not_false, Bool.not_true, tSeq, tIfS, tRet, tRetN, tNext, tNever, tAsg, gName, tVar, tC, tOp, tUn, tCons, tNil, tCB, tCall, tTest, tB, tAnd, tOr, tNot, tAndV, tOrV, tNotV, tIf, tChain, rI0, rI, rU, rEq, rNe, List.map_cons, List.map_nil, List.length_cons, List.length_nil, List.replicate, List.cons_append, List.nil_append, List.append_nil, List.getElem?_cons_zero, List.getElem?_cons_succ, List.set_cons_zero, List.set_cons_succ, Option.some.injEq, exists_eq_left', exists_eq_left, exists_eq_right, V.str.injEq, V.int.injEq, V.bl.injEq, V.ref.injEq, V.ty.injEq, List.cons.injEq, and_true, true_and, exists_and_left, Nat.zero_add, Nat.add_sub_cancel, Nat.sub_self, Nat.succ_sub_succ_eq_sub, Nat.reduceSub, Nat.reduceAdd, Nat.sub_zero, tYes, tSl, tPart, tNoPart, if_true, Bool.false_eq_true, if_false, reduceCtorEq, false_and, exists_false, or_false, false_or, scal, tLc_eq, tFor_eq, iStr, iList, iTup, RZ.iZipA, decide_false, decide_true, tM1, tM0, tDrop, tAug, ipI]
      refine ixL (SqL.of h5w) ws0 ⟨Nat.zero_le _, fun p0 hp0 => ?_⟩
      have e7 : Ex H5 (upd H5 p0 (.lst [])) := Ex.new hp0
      have h6p : upd H5 p0 (.lst []) p0 = some (.lst []) := upd_same
      obtain ⟨H6, hH6⟩ : ∃ H6, H6 = upd H5 p0 (.lst []) := ⟨_, rfl⟩
      rw [← hH6] at e7 h6p ⊢
      have hgl : DGet H6 lp (.str w0) (valV kl (Sum.inr w0)) := DGet.k (k := Sum.inr w0) (e7 lp _ hkl1)
      obtain ⟨la, g2, g3⟩ : ∃ la : Addr, (valV kl (Sum.inr w0)).getD (.ref p0) = .ref la ∧ H6 la = some (.lst (((LB.lookup w0).getD []).map V.int)) := by
        cases hl : LB.lookup w0 with
        | none => exact ⟨p0, by rw [(hkl2 w0).2 hl]; rfl, h6p⟩
        | some ms =>
          obtain ⟨a, q1, q2⟩ := (hkl2 w0).1 ms hl
          exact ⟨a, by rw [q1]; rfl, e7 a _ q2⟩
      refine ⟨_, hgl, ?_⟩
      rw [g2]
      refine ⟨la, rfl, ⟨_, SqL.of g3⟩, ?_⟩
      have h6w := e7 wp _ h5w
      have hlsl : ((LB.lookup w0).getD []).length ≤ 2 := by
        cases hl : LB.lookup w0 with
        | none => exact Nat.zero_le _
        | some ms =>
          have key : ∀ q ∈ LB, q.2.length ≤ 2 := by decide
          exact key _ (look_mem hl)
      refine lcMA (gv := V.int) (goes_list (xs := ((LB.lookup w0).getD []).map V.int) (small (by rw [List.length_map]; omega))) (fun H' e => SqL.of (e la _ g3)) (fun i => .bl (nmB (wAt (w0 :: r) i))) (fun i hi H7 e8 Q' q' => ?_) (fun D2 H7 hD2 e8 h7 => ?_) (fun _ => rfl)
      · try simp only [wipe, tTup, is_ss, is_si, is_ii, is_ib, is_is, is_bs, is_ns, is_ni, is_nt, Bool.not_false, Bool.not_true, tSeq, tIfS, tRet, tRetN, tNext, tNever, tAsg, gName, tVar, tC, tOp, tUn, tCons, tNil, tCB, tCall, tTest, tB, tAnd, tOr, tNot, tAndV, tOrV, tNotV, tIf, tChain, rI0, rI, rU, rEq, rNe, List.map_cons, List.map_nil, List.length_cons, List.length_nil, List.replicate, List.cons_append, List.nil_append, List.append_nil, List.getElem?_cons_zero, List.getElem?_cons_succ, List.set_cons_zero, List.set_cons_succ, Option.some.injEq, exists_eq_left', exists_eq_left, exists_eq_right, V.str.injEq, V.int.injEq, V.bl.injEq, V.ref.injEq, V.ty.injEq, List.cons.injEq, and_true, true_and, exists_and_left, Nat.zero_add, Nat.add_sub_cancel, Nat.sub_self, Nat.succ_sub_succ_eq_sub, Nat.reduceSub, Nat.reduceAdd, Nat.sub_zero, tYes, tSl, tPart, tNoPart, if_true, Bool.false_eq_true, if_false, reduceCtorEq, false_and, exists_false, or_false, false_or, scal, tLc_eq, tFor_eq, iStr, iList, iTup, RZ.iZipA, decide_false, decide_true, tM1, tM0, tDrop, tAug, ipI]
        obtain ⟨i0, i1⟩ := s3' i hi
        obtain ⟨w1, w2⟩ := wAt_ok (ws := w0 :: r) i0 (by rw [hn]; exact i1)
        refine ixL (SqL.of (e8 wp _ h6w)) w1 ?_
        exact ⟨_, rfl, by have := hwl _ w2; omega, q'⟩
      refine allQ (bs := ((LB.lookup w0).getD []).map fun i => nmB (wAt (w0 :: r) i)) (by rw [h7, List.map_map]; rfl) ⟨_, rfl, ?_⟩
      have ea2 : (((LB.lookup w0).getD []).map fun i => nmB (wAt (w0 :: r) i)).all id = ((LB.lookup w0).getD []).all (fun i => nmB (wAt (w0 :: r) i)) := by rw [List.all_map]; rfl
      rw [ea2]
      have e07 := ((e04.trans e5).trans e7).trans e8
      cases hln : ((LB.lookup w0).getD []).all (fun i => nmB (wAt (w0 :: r) i)) with
      | false =>
        rw [if_pos (by rfl)]
        exact hN (if_neg (by rw [hln]; decide)) H7 e07
      | true =>
        rw [if_neg (by decide)]
        rw [if_pos hln] at hQ hN
        have h7w := e8 wp _ h6w
        refine ixL (SqL.of h7w) ws0 ?_
        try simp only [tTup, is_ss, is_si, is_ii, is_ib, is_is, is_bs, is_ns, is_ni, is_nt, Bool.not_false, Bool.not_true, tSeq, tIfS, tRet, tRetN, tNext, tNever, tAsg, gName, tVar, tC, tOp, tUn, tCons, tNil, tCB, tCall, tTest, tB, tAnd, tOr, tNot, tAndV, tOrV, tNotV, tIf, tChain, rI0, rI, rU, rEq, rNe, List.map_cons, List.map_nil, List.length_cons, List.length_nil, List.replicate, List.cons_append, List.nil_append, List.append_nil, List.getElem?_cons_zero, List.getElem?_cons_succ, List.set_cons_zero, List.set_cons_succ, Option.some.injEq, exists_eq_left', exists_eq_left, exists_eq_right, V.str.injEq, V.int.injEq, V.bl.injEq, V.ref.injEq, V.ty.injEq, List.cons.injEq, and_true, true_and, exists_and_left, Nat.zero_add, Nat.add_sub_cancel, Nat.sub_self, Nat.succ_sub_succ_eq_sub, Nat.reduceSub, Nat.reduceAdd, Nat.sub_zero, tYes, tSl, tPart, tNoPart, if_true, Bool.false_eq_true, if_false, reduceCtorEq, false_and, exists_false, or_false, false_or, scal, tLc_eq, tFor_eq, iStr, iList, iTup, RZ.iZipA, decide_false, decide_true, tM1, tM0, tDrop, tAug, ipI]
        refine ⟨Nat.le_of_ble_eq_true rfl, fun tp htp => ?_⟩
        have e9 : Ex H7 (upd H7 tp (.tup [V.str (Str.ofString "set"), V.str (Str.ofString "skip")])) := Ex.new htp
        refine ninQ (.inr (SqT.of upd_same)) rfl rfl ⟨_, rfl, ?_⟩
        have hin : inV (V.str w0) [V.str (Str.ofString "set"), V.str (Str.ofString "skip")] = decide (w0 ∈ [Str.ofString "set", Str.ofString "skip"]) := inV_strs _ [Str.ofString "set", Str.ofString "skip"]
        rw [hin]
        obtain ⟨H8, hH8⟩ : ∃ H8, H8 = upd H7 tp (.tup [V.str (Str.ofString "set"), V.str (Str.ofString "skip")]) := ⟨_, rfl⟩
        rw [← hH8] at e9 ⊢
        have h8w := e9 wp _ h7w
        by_cases hss : w0 = Str.ofString "set" ∨ w0 = Str.ofString "skip"
        rotate_left
        · rw [if_pos (by simpa using hss)]
          rw [if_neg hss] at hQ
          exact ⟨_, .inl ⟨SqL.of h8w, fun l hl => hQ _ rfl l _ ((e07.trans e9).trans (Ex.new hl)) upd_same⟩⟩
        · rw [if_neg (by simp; intro h1; exact hss.resolve_left h1)]
          rw [if_pos hss] at hQ hN
          have hn3 := s4' hss
          obtain ⟨w1, w2⟩ := wAt_ok (ws := w0 :: r) (i := 2) (by decide) (by rw [hn, hn3]; decide)
          obtain ⟨v1, v2⟩ := wAt_ok (ws := w0 :: r) (i := 1) (by decide) (by rw [hn, hn3]; decide)
          refine ixL (SqL.of h8w) w1 ?_
          have hl2 := hwl _ w2
          refine ⟨_, rfl, by omega, fun H9 e10 => ⟨_, rfl, ?_⟩⟩
          have h9w := e10 wp _ h8w
          have e09 := (e07.trans e9).trans e10
          cases hnb : numB (tl (wAt (w0 :: r) 2)) with
          | false =>
            rw [if_pos (by rfl)]
            exact hN (if_neg (fun z => by rw [hnb] at z; exact absurd z.1 (by decide))) H9 e09
          | true =>
            rw [if_neg (by decide)]
            have hit : intText? (wAt (w0 :: r) 2) = some (numI (tl (wAt (w0 :: r) 2))) := by
              unfold numB at hnb
              obtain ⟨q1, q2⟩ := Bool.and_eq_true_iff.mp hnb
              obtain ⟨q3, q4⟩ := Bool.and_eq_true_iff.mp q1
              exact int_reads q4 (fun z => by rw [z] at q3; exact absurd q3 (by decide)) (by omega)
            refine ixL (SqL.of h9w) ws0 ⟨rfl, ?_⟩
            have fin : ¬ (w0 = Str.ofString "skip" ∧ numI (tl (wAt (w0 :: r) 2)) < 1) → ∀ H10, Ex H9 H10 → rIxL K (V.ref wp) (V.int 0) H10 fun x H1 => rIxL K (V.ref wp) (V.int 1) H1 fun x_1 H1 => rIxL K (V.ref wp) (V.int 2) H1 fun x_2 H1 => ∃ a, x_2 = V.str a ∧ ∃ x_3, intText? a = some x_3 ∧ a.length ≤ 640 ∧
                3 ≤ sizeLine ∧ ∀ (p : Addr), H1 p = none → Q (V.ref p) (upd H1 p (HO.tup [x, x_1, V.int x_3])) := by
              intro hns H10 e11
              have h10w := e11 wp _ h9w
              refine ixL (SqL.of h10w) ws0 (ixL (SqL.of h10w) v1 (ixL (SqL.of h10w) w1 ⟨_, rfl, _, hit, by omega, Nat.le_of_ble_eq_true rfl, fun p hp => ?_⟩))
              exact hQ _ (if_pos ⟨hnb, hns⟩) p _ ((e09.trans e11).trans (Ex.new hp)) upd_same
            by_cases hsk : w0 = Str.ofString "skip"
            · rw [if_pos (by simpa using hsk)]
              refine ixL (SqL.of h9w) w1 ⟨_, rfl, _, hit, by omega, ?_⟩
              by_cases hlt : numI (tl (wAt (w0 :: r) 2)) < 1
              · rw [if_pos (decide_eq_true hlt)]
                exact hN (if_neg (fun z => z.2 ⟨hsk, hlt⟩)) H9 e09
              · rw [if_neg (by simpa using hlt)]
                exact fin (fun z => hlt z.2) H9 (Ex.refl _)
            · rw [if_neg (by simpa using hsk)]
              exact fin (fun z => hsk z.1) H9 (Ex.refl _)

end K17

-- text K17Q5
set_option maxHeartbeats 8000000
namespace K17
open PySem PySem.Spec PyProof.Rows L2 Evl
variable {P : Program} {w : World} {K : PySem.W.Frag} {mg : Str → Option Value} {base : Heap} {d : Ad}
/-! ## _law_block, _law_is_wrong_step -/
theorem cut2_ind (x : Str) : decide (cutS x none (some 2) = Str.ofString "  ") = indB x := by
  rw [dec_str_tl, show tl (cutS x none (some 2)) = (tl x).take 2 from tl_cut_to x 2, tl_ind]
  unfold indB TL.pre
  rw [Bool.eq_iff_iff, decide_eq_true_eq, beq_iff_eq]
  exact Iff.rfl
/-- the last row below n that is not indented -/
def backM (ys : List Str) : Nat → Option Nat
  | 0 => none
  | k + 1 => if indB (ys.getD k nlS) = true then backM ys k else some k
def blkM (ys : List Str) (i : Nat) : Option Nat := match backM ys (i + 1) with
  | none => none
  | some k => if (modS (ys.getD k nlS)).isSome = true then some (k + 1) else none
theorem getD_at {ys : List Str} {k : Nat} (h : k < ys.length) : ys.getD k nlS = ys[k] := by rw [List.getD_eq_getElem?_getD, List.getElem?_eq_getElem h]; rfl
theorem at_row {ys : List Str} {k : Nat} (h : k < ys.length) : atI (ys.map V.str) (k : Int) = some (.str ys[k]) := atN (by simp [h])
def spBlock (K : PySem.W.Frag) : Sp := fun vs H Q _ => ∃ (a : Addr) (ys : List Str) (i : Nat), vs = [.ref a, .int i] ∧ SqL K H a (ys.map V.str) ∧ i < ys.length ∧ (∀ y ∈ ys, y.length ≤ 1000000) ∧ ∀ H', Ex H H' → Q (optI (blkM ys i)) H'
theorem o__law_block (T : Tx w K mg d) (F : Fd K mg "_law_block" s_L_block []) (o__law_head : Ok0 P w K mg base 4 "_law_head" ["_law_row"] spHead) : Ok0 P w K mg base 5 "_law_block" ["_law_rows", "_law_at"] (spBlock K) := by
  refine mkOk 4 F sc_L_block (fun _ _ _ _ _ _ us hl => match us, hl with | [_, _], _ => rfl) (fun vs H Q E h => by obtain ⟨a, ys, i, rfl, _⟩ := h; rfl) fun f cdv A outer s H vs Q E hr h => ?_
  obtain ⟨a, ys, i, rfl, hs, hi, hyl, hQ⟩ := h
  refine ⟨_, PSs.nox (pss_cons (ps_set (i := 2) sc_L_block.nd rfl (.inl rfl) (pv 1))
    (pss_cons (ps_while PassesOwn.never (PW.pt (pw_and (pt_cmpR op_ge (pv 2) pe_int (nomark _)) (pw_and1 (pt_cmpR op_eq (pe_slice sl_str (pe_ix ix_list (pv 0) (pv 2) (fun _ _ => rfl)) po_none (po_some pe_int)) pe_str (nomark _))))) (pss_one (ps_set (i := 2) sc_L_block.nd rfl (.inl rfl) (pe_op op_sub (pv 2) pe_int))))
    (pss_one (ps_ret (pe_ifExp (PW.pt (pw_and (pt_cmpR op_ge (pv 2) pe_int (nomark _)) (pw_and1 (pt_cmpR op_notN (pe_c o__law_head (hr.mono (by decide)) pass0 (pa_cons (pe_ix ix_list (pv 0) (pv 2) (fun _ _ => rfl)) pa_nil)) pe_non (nomark _))))) (pe_op op_add (pv 2) pe_int) pe_non))))), ?_⟩
  try simp only [n_L_block, L2.start, cxK, cxW, cxK', cxW', is_ss, is_si, is_ii, is_ib, is_is, is_bs, is_ns, is_ni, is_nt, Bool.not_false, Bool.not_true, tSeq, tIfS, tRet, tRetN, tNext, tNever, tAsg, gName, tVar, tC, tOp, tUn, tCons, tNil, tCB, tCall, tTest, tB, tAnd, tOr, tNot, tAndV, tOrV, tNotV, tIf, tChain, rI0, rI, rU, rEq, rNe, List.map_cons, List.map_nil, List.length_cons, List.length_nil, List.replicate, List.cons_append, List.nil_append, List.append_nil, List.getElem?_cons_zero, List.getElem?_cons_succ, List.set_cons_zero, List.set_cons_succ, Option.some.injEq, exists_eq_left', exists_eq_left, exists_eq_right, V.str.injEq, V.int.injEq, V.bl.injEq, V.ref.injEq, V.ty.injEq, List.cons.injEq, and_true, true_and, exists_and_left, Nat.zero_add, Nat.add_sub_cancel, Nat.sub_self, Nat.succ_sub_succ_eq_sub, Nat.reduceSub, Nat.reduceAdd, Nat.sub_zero, tYes, tSl, tPart, tNoPart, if_true, Bool.false_eq_true, if_false, reduceCtorEq, false_and, exists_false, or_false, false_or, scal, tLc_eq, tFor_eq, iStr, iList, iTup, RZ.iZipA, decide_false, decide_true, tM1, tM0, tDrop, tAug, ipI]
  obtain ⟨W, hW⟩ : ∃ W : Nat → L2.St → Hp → Prop, ∀ m σ' H', W m σ' H' ↔ (σ' = [some (.ref a), some (.int i), some (.int ((m : Int) - 1))] ∧ H' = H ∧ m ≤ i + 1 ∧ backM ys (i + 1) = backM ys m) := ⟨_, fun _ _ _ => Iff.rfl⟩
  refine ⟨W, ⟨i + 1, (hW _ _ _).mpr ⟨by rw [show ((i + 1 : Nat) : Int) - 1 = (i : Int) by omega], rfl, Nat.le_refl _, rfl⟩⟩, ?_⟩
  intro m σ' H' hw
  obtain ⟨rfl, rfl, hm, hb⟩ := (hW _ _ _).mp hw
  try simp only [rSlS, is_ss, is_si, is_ii, is_ib, is_is, is_bs, is_ns, is_ni, is_nt, Bool.not_false, Bool.not_true, tSeq, tIfS, tRet, tRetN, tNext, tNever, tAsg, gName, tVar, tC, tOp, tUn, tCons, tNil, tCB, tCall, tTest, tB, tAnd, tOr, tNot, tAndV, tOrV, tNotV, tIf, tChain, rI0, rI, rU, rEq, rNe, List.map_cons, List.map_nil, List.length_cons, List.length_nil, List.replicate, List.cons_append, List.nil_append, List.append_nil, List.getElem?_cons_zero, List.getElem?_cons_succ, List.set_cons_zero, List.set_cons_succ, Option.some.injEq, exists_eq_left', exists_eq_left, exists_eq_right, V.str.injEq, V.int.injEq, V.bl.injEq, V.ref.injEq, V.ty.injEq, List.cons.injEq, and_true, true_and, exists_and_left, Nat.zero_add, Nat.add_sub_cancel, Nat.sub_self, Nat.succ_sub_succ_eq_sub, Nat.reduceSub, Nat.reduceAdd, Nat.sub_zero, tYes, tSl, tPart, tNoPart, if_true, Bool.false_eq_true, if_false, reduceCtorEq, false_and, exists_false, or_false, false_or, scal, tLc_eq, tFor_eq, iStr, iList, iTup, RZ.iZipA, decide_false, decide_true, tM1, tM0, tDrop, tAug, ipI]
  have endN : backM ys (i + 1) = none → Q .non H' := fun h => by
    have q := hQ H' (Ex.refl _)
    have e : blkM ys i = none := by unfold blkM; rw [h]
    rw [e] at q
    exact q
  cases m with
  | zero =>
    rw [if_neg (by simp), if_neg (by simp)]
    exact endN hb
  | succ k =>
    have hk : k < ys.length := by omega
    have hk1 : ((k + 1 : Nat) : Int) - 1 = (k : Int) := by omega
    rw [hk1]
    rw [if_pos (by simp)]
    refine ixL hs (at_row hk) ⟨_, rfl, small' (by have := hyl _ (List.getElem_mem hk); omega), ?_⟩
    rw [cut2_ind]
    have hun : backM ys (k + 1) = if indB ys[k] = true then backM ys k else some k := by
      show (if indB (ys.getD k nlS) = true then backM ys k else some k) = _
      rw [getD_at hk]
    cases hind : indB ys[k] with
    | true =>
      rw [hind, if_pos rfl] at hun
      rw [if_pos rfl]
      exact ⟨fun σ2 H2 => W k σ2 H2, fun σ2 H2 h => ⟨k, Nat.lt_succ_self _, h⟩, (hW _ _ _).mpr ⟨rfl, rfl, by omega, by rw [hb, hun]⟩⟩
    | false =>
      rw [hind, if_neg (by decide)] at hun
      rw [if_neg (by decide), if_pos (by simp)]
      refine ixL hs (at_row hk) ⟨_, rfl, by have := hyl _ (List.getElem_mem hk); omega, fun H2 e2 => ?_⟩
      have q := hQ H2 e2
      unfold blkM at q
      rw [hb, hun] at q
      have q1 : Q (optI (if (modS (ys.getD k nlS)).isSome = true then some (k + 1) else none)) H2 := q
      rw [getD_at hk] at q1
      show (if (!decide (optV (modS ys[k]) = V.non)) = true then _ else _)
      rw [optV_non]
      cases hms : (modS ys[k]).isSome with
      | true =>
        rw [hms, if_pos rfl] at q1
        rw [if_pos rfl]
        exact q1
      | false =>
        rw [hms, if_neg (by decide)] at q1
        rw [if_neg (by decide)]
        exact q1
def lawStepB (ys : List Str) (i : Nat) (names : List Str) : Bool := match blkM ys i with
  | none => true
  | some s => match readW (wordsS (restS (ys.getD i nlS))) with
    | none => true
    | some items => decide ((29 : Int) < (i : Int) - (s : Int)) || wrongI items ((blockS ys (i + 1)).length : Int) names
def spWStep (K : PySem.W.Frag) : Sp := fun vs H Q _ => ∃ (a kn : Addr) (ys names : List Str) (i : Nat), vs = [.ref a, .int i, .ref kn] ∧ SqL K H a (ys.map V.str) ∧ SqL K H kn (names.map V.str) ∧ i < ys.length ∧ ys.length ≤ 3000000 ∧ (∀ y ∈ ys, LineOk y) ∧ ∀ H', Ex H H' → Q (.bl (lawStepB ys i names)) H'
/-- which modules a step names, by its word -/
theorem step_kind {wd : Str} {ks : List Str} {rest : List V} (hst : StOk wd ks rest) (hb : stepB ks rest = true) :
    (wd = Str.ofString "read" ∧ ∃ v m n, rest = [v, .str m, n] ∧ modsV ks rest = [.str m]) ∨ ((wd = Str.ofString "need" ∨ wd = Str.ofString "try") ∧ ∃ m r, rest = .str m :: r ∧ modsV ks rest = [.str m]) ∨
    (wd ≠ Str.ofString "read" ∧ wd ≠ Str.ofString "need" ∧ wd ≠ Str.ofString "try" ∧ modsV ks rest = []) := by
  obtain ⟨hk, hl, hi⟩ := hst
  have hm := look_mem hk
  simp only [List.mem_cons, List.not_mem_nil, or_false, Prod.mk.injEq] at hm
  have str : ∀ (v : V), (Str.ofString "module", v) ∈ ks.zip rest → ∃ m, v = .str m := by
    intro v hv
    have q := hi _ v hv
    unfold ItOk at q
    rw [if_neg (by decide +kernel)] at q
    obtain ⟨x, hx, _⟩ := q
    exact ⟨x, hx⟩
  have nm1 : decide (Str.ofString "variable" = Str.ofString "module") = false := by decide +kernel
  have nm2 : decide (Str.ofString "integer" = Str.ofString "module") = false := by decide +kernel
  have nm3 : decide (Str.ofString "amount" = Str.ofString "module") = false := by decide +kernel
  have nm4 : decide (Str.ofString "name" = Str.ofString "module") = false := by decide +kernel
  have nm5 : decide (Str.ofString "module" = Str.ofString "module") = true := by decide +kernel
  rcases hm with ⟨rfl, rfl⟩ | ⟨rfl, rfl⟩ | ⟨rfl, rfl⟩ | ⟨rfl, rfl⟩ | ⟨rfl, rfl⟩ | ⟨rfl, rfl⟩ | ⟨rfl, rfl⟩ | ⟨rfl, rfl⟩
  · match rest, hl with
    | [a, b], _ => exact .inr (.inr ⟨by decide +kernel, by decide +kernel, by decide +kernel, by unfold modsV; simp [nm1, nm2]⟩)
  · match rest, hl with
    | [a, b], _ => exact .inr (.inr ⟨by decide +kernel, by decide +kernel, by decide +kernel, by unfold modsV; simp [nm1]⟩)
  · match rest, hl with
    | [a, b], _ => exact .inr (.inr ⟨by decide +kernel, by decide +kernel, by decide +kernel, by unfold modsV; simp [nm1, nm3]⟩)
  · match rest, hl with
    | [a, b], _ => exact .inr (.inr ⟨by decide +kernel, by decide +kernel, by decide +kernel, by unfold modsV; simp [nm1, nm4]⟩)
  · match rest, hl with
    | [a, b, c], _ =>
      obtain ⟨m, rfl⟩ := str b (by simp)
      exact .inl ⟨rfl, a, m, c, rfl, by unfold modsV; simp [nm1, nm4]⟩
  · match rest, hl with
    | [a], _ =>
      obtain ⟨m, rfl⟩ := str a (by simp)
      exact .inr (.inl ⟨.inl rfl, m, [], rfl, by unfold modsV; simp⟩)
  · match rest, hl with
    | [a, b], _ =>
      obtain ⟨m, rfl⟩ := str a (by simp)
      exact .inr (.inl ⟨.inr rfl, m, [b], rfl, by unfold modsV; simp [nm1]⟩)
  · match rest, hl with
    | [], _ => exact .inr (.inr ⟨by decide +kernel, by decide +kernel, by decide +kernel, rfl⟩)
theorem o__law_is_wrong_step (T : Tx w K mg d) (F : Fd K mg "_law_is_wrong_step" s_L_is_wrong_step []) (o__law_block : Ok0 P w K mg base 5 "_law_block" ["_law_rows", "_law_at"] (spBlock K)) (o__law_step_read : Ok0 P w K mg base 4 "_law_step_read" ["_law_shown"] spRead) :
    Ok0 P w K mg base 6 "_law_is_wrong_step" ["_law_rows", "_law_at", "_law_names"] (spWStep K) := by
  refine mkOk 5 F sc_L_is_wrong_step (fun _ _ _ _ _ _ us hl => match us, hl with | [_, _, _], _ => rfl) (fun vs H Q E h => by obtain ⟨_, _, _, _, _, rfl, _⟩ := h; rfl) fun f cdv A outer s H vs Q E hr h => ?_
  obtain ⟨a, kn, ys, names, i, rfl, hs, hkn, hi, hz, hok, hQ⟩ := h
  refine ⟨_, PSs.nox (pss_cut (ps_par3 (i := 3) (j := 4) (l := 5) rfl sc_L_is_wrong_step.nd rfl rfl rfl (by decide) (by decide) (by decide) rfl rfl rfl (pa_cons (pe_c o__law_block (hr.mono (by decide)) pass0 (pa_cons (pv 0) (pa_cons (pv 1) pa_nil))) (pa_cons (pv 1) (pa_cons (pe_c o__law_step_read (hr.mono (by decide)) pass0 (pa_cons (pe_slice sl_str (pe_ix ix_list (pv 0) (pv 1) (fun _ _ => rfl)) (po_some pe_int) po_none) pa_nil)) pa_nil))) rfl)
    (pss_cut (ps_while PassesOwn.never (PW.pt (pw_and (pt_cmpR op_lt (pe_op op_add (pv 4) pe_int) (pe_callB call_len_seq (by rfl) T.b_len (by decide +kernel) (pa_cons (pv 0) pa_nil)) (nomark _)) (pw_and1 (pt_cmpR op_eq (pe_slice sl_str (pe_ix ix_list (pv 0) (pe_op op_add (pv 4) pe_int) (fun _ _ => rfl)) po_none (po_some pe_int)) pe_str (nomark _))))) (pss_one (ps_set (i := 4) sc_L_is_wrong_step.nd rfl (.inl rfl) (pe_op op_add (pv 4) pe_int))))
    (pss_cons (ps_if (PW.pt (pw_or (pt_cmpR op_isN (pv 3) pe_non (nomark _)) (pw_or (pt_cmpR op_isN (pv 5) pe_non (nomark _)) (pw_or1 (pt_cmpR op_gt (pe_op op_sub (pv 1) (pv 3)) pe_int (nomark _)))))) (pss_one (ps_ret pe_bl)) pss_nil)
    (pss_cons (ps_if (PW.pt (pw_and (pt_cmpR op_eq (pe_ix ix_tup (pv 5) pe_int (fun _ _ => rfl)) pe_str (nomark _)) (pw_and1 (pt_cmpR op_gt (pe_ix ix_tup (pv 5) pe_int (fun _ _ => rfl)) (pe_op op_sub (pv 4) (pv 1)) (nomark _))))) (pss_one (ps_ret pe_bl)) pss_nil)
    (pss_cons (ps_if (pt_cmpR op_eq (pe_ix ix_tup (pv 5) pe_int (fun _ _ => rfl)) pe_str (nomark _)) (pss_one (ps_ret (pe_cmpR op_notIn_seq (pe_ix ix_tup (pv 5) pe_int (fun _ _ => rfl)) (pv 2) (by rfl)))) pss_nil)
    (pss_one (ps_ret (pe_and (pe_cmpR op_in_seq (pe_ix ix_tup (pv 5) pe_int (fun _ _ => rfl)) (pe_tup (pa_cons pe_str (pa_cons pe_str pa_nil))) (by rfl)) (pe_one (pe_cmpR op_notIn_seq (pe_ix ix_tup (pv 5) pe_int (fun _ _ => rfl)) (pv 2) (by rfl))))))))))), ?_⟩
  try simp only [n_L_is_wrong_step, L2.start, cxK, cxW, cxK', cxW', is_ss, is_si, is_ii, is_ib, is_is, is_bs, is_ns, is_ni, is_nt, Bool.not_false, Bool.not_true, tSeq, tIfS, tRet, tRetN, tNext, tNever, tAsg, gName, tVar, tC, tOp, tUn, tCons, tNil, tCB, tCall, tTest, tB, tAnd, tOr, tNot, tAndV, tOrV, tNotV, tIf, tChain, rI0, rI, rU, rEq, rNe, List.map_cons, List.map_nil, List.length_cons, List.length_nil, List.replicate, List.cons_append, List.nil_append, List.append_nil, List.getElem?_cons_zero, List.getElem?_cons_succ, List.set_cons_zero, List.set_cons_succ, Option.some.injEq, exists_eq_left', exists_eq_left, exists_eq_right, V.str.injEq, V.int.injEq, V.bl.injEq, V.ref.injEq, V.ty.injEq, List.cons.injEq, and_true, true_and, exists_and_left, Nat.zero_add, Nat.add_sub_cancel, Nat.sub_self, Nat.succ_sub_succ_eq_sub, Nat.reduceSub, Nat.reduceAdd, Nat.sub_zero, tYes, tSl, tPart, tNoPart, if_true, Bool.false_eq_true, if_false, reduceCtorEq, false_and, exists_false, or_false, false_or, scal, tLc_eq, tFor_eq, iStr, iList, iTup, RZ.iZipA, decide_false, decide_true, tM1, tM0, tDrop, tAug, ipI]
  have hline := hok _ (List.getElem_mem hi)
  obtain ⟨SV, hSV⟩ : ∃ P0 : V → Hp → Prop, ∀ sv H', P0 sv H' ↔ ((sv = .non ∧ readW (wordsS (restS ys[i])) = none) ∨ ∃ p items, sv = .ref p ∧ readW (wordsS (restS ys[i])) = some items ∧ H' p = some (.tup items)) := ⟨_, fun _ _ => Iff.rfl⟩
  refine ⟨fun σ' H' => ∃ sv, σ' = [some (.ref a), some (.int i), some (.ref kn), some (optI (blkM ys i)), some (.int i), some sv] ∧ Ex H H' ∧ SV sv H', ?_, ?_⟩
  · try simp only [tPar3, rSlS, is_ss, is_si, is_ii, is_ib, is_is, is_bs, is_ns, is_ni, is_nt, Bool.not_false, Bool.not_true, tSeq, tIfS, tRet, tRetN, tNext, tNever, tAsg, gName, tVar, tC, tOp, tUn, tCons, tNil, tCB, tCall, tTest, tB, tAnd, tOr, tNot, tAndV, tOrV, tNotV, tIf, tChain, rI0, rI, rU, rEq, rNe, List.map_cons, List.map_nil, List.length_cons, List.length_nil, List.replicate, List.cons_append, List.nil_append, List.append_nil, List.getElem?_cons_zero, List.getElem?_cons_succ, List.set_cons_zero, List.set_cons_succ, Option.some.injEq, exists_eq_left', exists_eq_left, exists_eq_right, V.str.injEq, V.int.injEq, V.bl.injEq, V.ref.injEq, V.ty.injEq, List.cons.injEq, and_true, true_and, exists_and_left, Nat.zero_add, Nat.add_sub_cancel, Nat.sub_self, Nat.succ_sub_succ_eq_sub, Nat.reduceSub, Nat.reduceAdd, Nat.sub_zero, tYes, tSl, tPart, tNoPart, if_true, Bool.false_eq_true, if_false, reduceCtorEq, false_and, exists_false, or_false, false_or, scal, tLc_eq, tFor_eq, iStr, iList, iTup, RZ.iZipA, decide_false, decide_true, tM1, tM0, tDrop, tAug, ipI]
    refine ⟨a, ys, i, rfl, hs, hi, fun y hy => (hok y hy).len, fun H1 e1 => ?_⟩
    refine ixL (ex_l e1 hs) (at_row hi) ⟨_, rfl, small' (by have := hline.len; omega), restS ys[i], rfl, Nat.le_trans (cut_len _ _ _) (by have := hline.len; omega), hline.rest, fun items hit p H2 e2 hp => ?_, fun hn H2 e2 => ?_⟩
    · exact ⟨_, _, _, ⟨rfl, rfl, rfl⟩, _, ⟨rfl, rfl, rfl⟩, e1.trans e2, (hSV _ _).mpr (.inr ⟨p, items, rfl, hit, hp⟩)⟩
    · exact ⟨_, _, _, ⟨rfl, rfl, rfl⟩, _, ⟨rfl, rfl, rfl⟩, e1.trans e2, (hSV _ _).mpr (.inl ⟨rfl, hn⟩)⟩
  rintro σ' H1 ⟨sv, rfl, e1, hsv⟩
  refine ⟨fun σ' H' => σ' = [some (.ref a), some (.int i), some (.ref kn), some (optI (blkM ys i)), some (.int ((i : Int) + ((blockS ys (i + 1)).length : Int))), some sv] ∧ H' = H1, ?_, ?_⟩
  · obtain ⟨W, hW⟩ : ∃ W : Nat → L2.St → Hp → Prop, ∀ m σ' H', W m σ' H' ↔ ∃ e : Nat, σ' = [some (.ref a), some (.int i), some (.ref kn), some (optI (blkM ys i)), some (.int (e : Int)), some sv] ∧ H' = H1 ∧ i ≤ e ∧ e < ys.length ∧ m = ys.length - e ∧ (blockS ys (i + 1)).length = (e - i) + (blockS ys (e + 1)).length := ⟨_, fun _ _ _ => Iff.rfl⟩
    refine ⟨W, ⟨_, (hW _ _ _).mpr ⟨i, rfl, rfl, Nat.le_refl _, hi, rfl, by omega⟩⟩, ?_⟩
    intro m σ' H' hw
    obtain ⟨e, rfl, rfl, h1, h2, rfl, h3⟩ := (hW _ _ _).mp hw
    have fin : blockS ys (e + 1) = [] → (V.int (e : Int)) = V.int ((i : Int) + ((blockS ys (i + 1)).length : Int)) := fun h => by
      rw [h] at h3
      simp only [List.length_nil, Nat.add_zero] at h3
      rw [h3]
      congr 1
      omega
    try simp only [rSlS, is_ss, is_si, is_ii, is_ib, is_is, is_bs, is_ns, is_ni, is_nt, Bool.not_false, Bool.not_true, tSeq, tIfS, tRet, tRetN, tNext, tNever, tAsg, gName, tVar, tC, tOp, tUn, tCons, tNil, tCB, tCall, tTest, tB, tAnd, tOr, tNot, tAndV, tOrV, tNotV, tIf, tChain, rI0, rI, rU, rEq, rNe, List.map_cons, List.map_nil, List.length_cons, List.length_nil, List.replicate, List.cons_append, List.nil_append, List.append_nil, List.getElem?_cons_zero, List.getElem?_cons_succ, List.set_cons_zero, List.set_cons_succ, Option.some.injEq, exists_eq_left', exists_eq_left, exists_eq_right, V.str.injEq, V.int.injEq, V.bl.injEq, V.ref.injEq, V.ty.injEq, List.cons.injEq, and_true, true_and, exists_and_left, Nat.zero_add, Nat.add_sub_cancel, Nat.sub_self, Nat.succ_sub_succ_eq_sub, Nat.reduceSub, Nat.reduceAdd, Nat.sub_zero, tYes, tSl, tPart, tNoPart, if_true, Bool.false_eq_true, if_false, reduceCtorEq, false_and, exists_false, or_false, false_or, scal, tLc_eq, tFor_eq, iStr, iList, iTup, RZ.iZipA, decide_false, decide_true, tM1, tM0, tDrop, tAug, ipI]
    refine ⟨_, .inl (ex_l e1 hs), ?_⟩
    rw [List.length_map]
    by_cases hlt : e + 1 < ys.length
    · rw [if_pos (decide_eq_true (by omega))]
      have hat := at_row hlt
      rw [show ((e + 1 : Nat) : Int) = (e : Int) + 1 by omega] at hat
      refine ixL (ex_l e1 hs) hat ⟨_, rfl, small' (by have := (hok _ (List.getElem_mem hlt)).len; omega), ?_⟩
      rw [cut2_ind]
      have hd : ys.drop (e + 1) = ys[e + 1] :: ys.drop (e + 1 + 1) := List.drop_eq_getElem_cons hlt
      cases hind : indB ys[e + 1] with
      | true =>
        rw [if_pos rfl]
        refine ⟨fun σ2 H2 => W (ys.length - (e + 1)) σ2 H2, fun σ2 H2 h => ⟨_, by omega, h⟩, (hW _ _ _).mpr ⟨e + 1, rfl, rfl, by omega, hlt, rfl, ?_⟩⟩
        have hb : blockS ys (e + 1) = ys[e + 1] :: blockS ys (e + 1 + 1) := by
          unfold blockS
          rw [hd, List.takeWhile_cons, if_pos hind]
        rw [hb, List.length_cons] at h3
        omega
      | false =>
        rw [if_neg (by decide)]
        have hb : blockS ys (e + 1) = [] := by
          unfold blockS
          rw [hd, List.takeWhile_cons, if_neg (by rw [hind]; decide)]
        exact ⟨by have := fin hb; injection this, rfl⟩
    · rw [if_neg (by simp; omega)]
      have hb : blockS ys (e + 1) = [] := by
        unfold blockS
        rw [List.drop_of_length_le (by omega)]
        rfl
      first | exact ⟨by have := fin hb; injection this, rfl⟩ | (have := fin hb; injection this)
  rintro σ' H2 ⟨rfl, rfl⟩
  try simp only [is_ss, is_si, is_ii, is_ib, is_is, is_bs, is_ns, is_ni, is_nt, Bool.not_false, Bool.not_true, tSeq, tIfS, tRet, tRetN, tNext, tNever, tAsg, gName, tVar, tC, tOp, tUn, tCons, tNil, tCB, tCall, tTest, tB, tAnd, tOr, tNot, tAndV, tOrV, tNotV, tIf, tChain, rI0, rI, rU, rEq, rNe, List.map_cons, List.map_nil, List.length_cons, List.length_nil, List.replicate, List.cons_append, List.nil_append, List.append_nil, List.getElem?_cons_zero, List.getElem?_cons_succ, List.set_cons_zero, List.set_cons_succ, Option.some.injEq, exists_eq_left', exists_eq_left, exists_eq_right, V.str.injEq, V.int.injEq, V.bl.injEq, V.ref.injEq, V.ty.injEq, List.cons.injEq, and_true, true_and, exists_and_left, Nat.zero_add, Nat.add_sub_cancel, Nat.sub_self, Nat.succ_sub_succ_eq_sub, Nat.reduceSub, Nat.reduceAdd, Nat.sub_zero, tYes, tSl, tPart, tNoPart, if_true, Bool.false_eq_true, if_false, reduceCtorEq, false_and, exists_false, or_false, false_or, scal, tLc_eq, tFor_eq, iStr, iList, iTup, RZ.iZipA, decide_false, decide_true, tM1, tM0, tDrop, tAug, ipI]
  have eg := getD_at hi
  have hl0 : lawStepB ys i names = (match blkM ys i with
    | none => true
    | some s => match readW (wordsS (restS ys[i])) with
      | none => true
      | some items => decide ((29 : Int) < (i : Int) - (s : Int)) || wrongI items ((blockS ys (i + 1)).length : Int) names) := by
    unfold lawStepB
    rw [eg]
  cases hb : blkM ys i with
  | none =>
    rw [hb] at hl0
    have q := hQ H2 e1
    rw [hl0] at q
    rw [if_pos (by rfl)]
    exact q
  | some s0 =>
    rw [hb] at hl0
    rw [if_neg (by simp [optI])]
    rcases (hSV _ _).mp hsv with ⟨rfl, hn⟩ | ⟨p, items, rfl, hit, hp⟩
    · have q := hQ H2 e1
      rw [hl0, hn] at q
      rw [if_pos (by rfl)]
      exact q
    · rw [hit] at hl0
      have hl1 : lawStepB ys i names = (decide ((29 : Int) < (i : Int) - (s0 : Int)) || wrongI items ((blockS ys (i + 1)).length : Int) names) := hl0
      rw [if_neg (by simp)]
      refine ⟨(s0 : Int), rfl, ?_⟩
      by_cases h29 : (29 : Int) < (i : Int) - (s0 : Int)
      · rw [if_pos (decide_eq_true h29)]
        have q := hQ H2 e1
        rw [hl1, decide_eq_true h29, Bool.true_or] at q
        exact q
      · rw [if_neg (by simpa using h29)]
        rw [decide_eq_false h29, Bool.false_or] at hl1
        obtain ⟨wd, ks, rest, rfl, hk, hst, hsb⟩ := readW_good hit hline.rest
        have hl2 : lawStepB ys i names = wrongB wd ks rest ((blockS ys (i + 1)).length : Int) names := by
          rw [hl1]
          show wrongB wd ((formK wd).getD []) rest _ names = _
          rw [hk]
          rfl
        have q0 := hQ H2 e1
        rw [hl2] at q0
        unfold wrongB at q0
        have p0 : atI (V.str wd :: rest) 0 = some (.str wd) := at0
        have hnt : inV (V.str wd) [V.str (Str.ofString "need"), V.str (Str.ofString "try")] = decide (wd ∈ [Str.ofString "need", Str.ofString "try"]) := inV_strs _ [Str.ofString "need", Str.ofString "try"]
        have el : (i : Int) + ((blockS ys (i + 1)).length : Int) - (i : Int) = ((blockS ys (i + 1)).length : Int) := by omega
        refine ixT (SqT.of hp) p0 ⟨rfl, ?_⟩
        by_cases hsk : wd = Str.ofString "skip"
        · rw [if_pos (by simpa using hsk)]
          subst hsk
          obtain ⟨v, n, rfl⟩ := skip_form hst hsb
          refine ixT (i := 2) (v := .int n) (SqT.of hp) rfl ⟨n, rfl, ?_⟩
          rw [el]
          have hks : ks = [Str.ofString "variable", Str.ofString "amount"] := by
            have e2 : formK (Str.ofString "skip") = some [Str.ofString "variable", Str.ofString "amount"] := by decide +kernel
            rw [e2] at hk
            exact (Option.some.inj hk).symm
          have hmod : modsV ks [v, .int n] = [] := by
            rcases step_kind hst hsb with ⟨z, _⟩ | ⟨z | z, _⟩ | ⟨_, _, _, z⟩
            · exact absurd z (by decide +kernel)
            · exact absurd z (by decide +kernel)
            · exact absurd z (by decide +kernel)
            · exact z
          rw [hmod] at q0
          by_cases hlt : ((blockS ys (i + 1)).length : Int) < n
          · rw [if_pos (decide_eq_true hlt)]
            have e5 : skipB (Str.ofString "skip") [v, .int n] ((blockS ys (i + 1)).length : Int) = true := by simp [skipB, hlt]
            rw [e5, Bool.true_or] at q0
            exact q0
          · rw [if_neg (by simpa using hlt)]
            have e5 : skipB (Str.ofString "skip") [v, .int n] ((blockS ys (i + 1)).length : Int) = false := by simp [skipB, hlt]
            refine ixT (SqT.of hp) p0 ⟨rfl, ?_⟩
            rw [if_neg (by rw [decide_eq_true_eq]; intro z; exact absurd (V.str.inj z) (by decide +kernel))]
            refine ixT (SqT.of hp) p0 ?_
            try simp only [tTup, is_ss, is_si, is_ii, is_ib, is_is, is_bs, is_ns, is_ni, is_nt, Bool.not_false, Bool.not_true, tSeq, tIfS, tRet, tRetN, tNext, tNever, tAsg, gName, tVar, tC, tOp, tUn, tCons, tNil, tCB, tCall, tTest, tB, tAnd, tOr, tNot, tAndV, tOrV, tNotV, tIf, tChain, rI0, rI, rU, rEq, rNe, List.map_cons, List.map_nil, List.length_cons, List.length_nil, List.replicate, List.cons_append, List.nil_append, List.append_nil, List.getElem?_cons_zero, List.getElem?_cons_succ, List.set_cons_zero, List.set_cons_succ, Option.some.injEq, exists_eq_left', exists_eq_left, exists_eq_right, V.str.injEq, V.int.injEq, V.bl.injEq, V.ref.injEq, V.ty.injEq, List.cons.injEq, and_true, true_and, exists_and_left, Nat.zero_add, Nat.add_sub_cancel, Nat.sub_self, Nat.succ_sub_succ_eq_sub, Nat.reduceSub, Nat.reduceAdd, Nat.sub_zero, tYes, tSl, tPart, tNoPart, if_true, Bool.false_eq_true, if_false, reduceCtorEq, false_and, exists_false, or_false, false_or, scal, tLc_eq, tFor_eq, iStr, iList, iTup, RZ.iZipA, decide_false, decide_true, tM1, tM0, tDrop, tAug, ipI]
            refine ⟨Nat.le_of_ble_eq_true rfl, fun tp htp => ?_⟩
            refine inQ (.inr (SqT.of upd_same)) rfl rfl ⟨_, rfl, ?_⟩
            rw [hnt, if_neg (by decide +kernel)]
            have q := hQ (upd H2 tp (.tup [V.str (Str.ofString "need"), V.str (Str.ofString "try")])) (e1.trans (Ex.new htp))
            rw [hl2] at q
            have e6 : wrongB (Str.ofString "skip") ks [v, .int n] ((blockS ys (i + 1)).length : Int) names = false := by
              unfold wrongB
              rw [e5, hmod]
              rfl
            rw [e6] at q
            exact q
        · rw [if_neg (by simpa using hsk)]
          have hsb0 : skipB wd rest ((blockS ys (i + 1)).length : Int) = false := by
            unfold skipB
            split
            · simp [hsk]
            · rfl
          rw [hsb0, Bool.false_or] at q0
          refine ixT (SqT.of hp) p0 ⟨rfl, ?_⟩
          have hl3 : lawStepB ys i names = !(modsV ks rest).all fun m => inV m (names.map V.str) := by
            rw [hl2]
            unfold wrongB
            rw [hsb0, Bool.false_or]
          rcases step_kind hst hsb with ⟨rfl, v, m, n, rfl, hmod⟩ | ⟨hwd, m, r2, rfl, hmod⟩ | ⟨w1, w2, w3, hmod⟩
          · rw [if_pos (by rfl)]
            rw [hmod] at q0
            refine ixT (i := 2) (v := .str m) (SqT.of hp) rfl (ninQ (.inl (ex_l e1 hkn)) rfl (flat_strs names) ?_)
            simpa using q0
          · have hnr : wd ≠ Str.ofString "read" := by
              rcases hwd with z | z <;> rw [z] <;> decide +kernel
            rw [if_neg (by simpa using hnr)]
            refine ixT (SqT.of hp) p0 ?_
            try simp only [tTup, is_ss, is_si, is_ii, is_ib, is_is, is_bs, is_ns, is_ni, is_nt, Bool.not_false, Bool.not_true, tSeq, tIfS, tRet, tRetN, tNext, tNever, tAsg, gName, tVar, tC, tOp, tUn, tCons, tNil, tCB, tCall, tTest, tB, tAnd, tOr, tNot, tAndV, tOrV, tNotV, tIf, tChain, rI0, rI, rU, rEq, rNe, List.map_cons, List.map_nil, List.length_cons, List.length_nil, List.replicate, List.cons_append, List.nil_append, List.append_nil, List.getElem?_cons_zero, List.getElem?_cons_succ, List.set_cons_zero, List.set_cons_succ, Option.some.injEq, exists_eq_left', exists_eq_left, exists_eq_right, V.str.injEq, V.int.injEq, V.bl.injEq, V.ref.injEq, V.ty.injEq, List.cons.injEq, and_true, true_and, exists_and_left, Nat.zero_add, Nat.add_sub_cancel, Nat.sub_self, Nat.succ_sub_succ_eq_sub, Nat.reduceSub, Nat.reduceAdd, Nat.sub_zero, tYes, tSl, tPart, tNoPart, if_true, Bool.false_eq_true, if_false, reduceCtorEq, false_and, exists_false, or_false, false_or, scal, tLc_eq, tFor_eq, iStr, iList, iTup, RZ.iZipA, decide_false, decide_true, tM1, tM0, tDrop, tAug, ipI]
            refine ⟨Nat.le_of_ble_eq_true rfl, fun tp htp => ?_⟩
            have e9 : Ex H2 (upd H2 tp (.tup [V.str (Str.ofString "need"), V.str (Str.ofString "try")])) := Ex.new htp
            refine inQ (.inr (SqT.of upd_same)) rfl rfl ⟨_, rfl, ?_⟩
            rw [hnt, if_pos (by simpa using hwd)]
            refine ixT (i := 1) (v := .str m) (SqT.of (e9 p _ hp)) (atN (i := 1) rfl) (ninQ (.inl (ex_l (e1.trans e9) hkn)) rfl (flat_strs names) ?_)
            have q := hQ _ (e1.trans e9)
            rw [hl3, hmod] at q
            simpa using q
          · rw [if_neg (by simpa using w1)]
            refine ixT (SqT.of hp) p0 ?_
            try simp only [tTup, is_ss, is_si, is_ii, is_ib, is_is, is_bs, is_ns, is_ni, is_nt, Bool.not_false, Bool.not_true, tSeq, tIfS, tRet, tRetN, tNext, tNever, tAsg, gName, tVar, tC, tOp, tUn, tCons, tNil, tCB, tCall, tTest, tB, tAnd, tOr, tNot, tAndV, tOrV, tNotV, tIf, tChain, rI0, rI, rU, rEq, rNe, List.map_cons, List.map_nil, List.length_cons, List.length_nil, List.replicate, List.cons_append, List.nil_append, List.append_nil, List.getElem?_cons_zero, List.getElem?_cons_succ, List.set_cons_zero, List.set_cons_succ, Option.some.injEq, exists_eq_left', exists_eq_left, exists_eq_right, V.str.injEq, V.int.injEq, V.bl.injEq, V.ref.injEq, V.ty.injEq, List.cons.injEq, and_true, true_and, exists_and_left, Nat.zero_add, Nat.add_sub_cancel, Nat.sub_self, Nat.succ_sub_succ_eq_sub, Nat.reduceSub, Nat.reduceAdd, Nat.sub_zero, tYes, tSl, tPart, tNoPart, if_true, Bool.false_eq_true, if_false, reduceCtorEq, false_and, exists_false, or_false, false_or, scal, tLc_eq, tFor_eq, iStr, iList, iTup, RZ.iZipA, decide_false, decide_true, tM1, tM0, tDrop, tAug, ipI]
            refine ⟨Nat.le_of_ble_eq_true rfl, fun tp htp => ?_⟩
            refine inQ (.inr (SqT.of upd_same)) rfl rfl ⟨_, rfl, ?_⟩
            rw [hnt, if_neg (by simp; exact ⟨w2, w3⟩)]
            have q := hQ (upd H2 tp (.tup [V.str (Str.ofString "need"), V.str (Str.ofString "try")])) (e1.trans (Ex.new htp))
            rw [hl3, hmod] at q
            exact q

end K17

-- text K17Q6
set_option maxHeartbeats 8000000
namespace K17
open PySem PySem.Spec PyProof.Rows L2 Evl
variable {P : Program} {w : World} {K : PySem.W.Frag} {mg : Str → Option Value} {base : Heap} {d : Ad}
/-! ## _law_is_wrong, _law_wrong_line -/
def headsM (ys : List Str) (i : Nat) : List Str := (ys.take i).filterMap modS
def lawB (ys : List Str) (i : Nat) (names : List Str) : Bool := if indB (ys.getD i nlS) = true then lawStepB ys i names else
  match modS (ys.getD i nlS) with
  | none => true
  | some m => decide (39 < (headsM ys i).length) || (match (headsM ys i).getLast? with
    | none => false
    | some l => !decide (l.cps.toList < m.cps.toList))
def spLW (K : PySem.W.Frag) : Sp := fun vs H Q _ => ∃ (a kn : Addr) (ys names : List Str) (i : Nat), vs = [.ref a, .int i, .ref kn] ∧ SqL K H a (ys.map V.str) ∧ SqL K H kn (names.map V.str) ∧ i < ys.length ∧ ys.length ≤ 3000000 ∧ (∀ y ∈ ys, LineOk y) ∧ ∀ H', Ex H H' → Q (.bl (lawB ys i names)) H'
theorem cut_front {xs : List V} {i : Nat} (h : i ≤ xs.length) : cutV xs none (some (i : Int)) = xs.take i := by
  unfold cutV
  rw [HT.sIx_none]
  have e : HT.sIx xs.length xs.length (some (i : Int)) = i := (HT.sIx_nat _ _ i).trans (by omega)
  rw [e, List.drop_zero, Nat.sub_zero]
theorem o__law_is_wrong (T : Tx w K mg d) (F : Fd K mg "_law_is_wrong" s_L_is_wrong []) (o__law_head : Ok0 P w K mg base 4 "_law_head" ["_law_row"] spHead) (o__law_is_wrong_step : Ok0 P w K mg base 6 "_law_is_wrong_step" ["_law_rows", "_law_at", "_law_names"] (spWStep K)) :
    Ok0 P w K mg base 7 "_law_is_wrong" ["_law_rows", "_law_at", "_law_names"] (spLW K) := by
  refine mkOk 6 F sc_L_is_wrong (fun _ _ _ _ _ _ us hl => match us, hl with | [_, _, _], _ => rfl) (fun vs H Q E h => by obtain ⟨_, _, _, _, _, rfl, _⟩ := h; rfl) fun f cdv A outer s H vs Q E hr h => ?_
  obtain ⟨a, kn, ys, names, i, rfl, hs, hkn, hi, hz, hok, hQ⟩ := h
  refine ⟨_, PSs.nox (pss_cons (ps_if (pt_cmpR op_eq (pe_slice sl_str (pe_ix ix_list (pv 0) (pv 1) (fun _ _ => rfl)) po_none (po_some pe_int)) pe_str (nomark _)) (pss_one (ps_ret (pe_c o__law_is_wrong_step (hr.mono (by decide)) pass0 (pa_cons (pv 0) (pa_cons (pv 1) (pa_cons (pv 2) pa_nil)))))) pss_nil)
    (pss_cons (ps_par (i := 3) (j := 4) rfl sc_L_is_wrong.nd rfl rfl (by decide) rfl rfl (pa_cons (pe_c o__law_head (hr.mono (by decide)) pass0 (pa_cons (pe_ix ix_list (pv 0) (pv 1) (fun _ _ => rfl)) pa_nil)) (pa_cons (pe_lc (own := [("_law_row", 5)]) rfl sc_L_is_wrong.nd (pi_list (pe_slice sl_list (pv 0) po_none (po_some (pv 1)))) (blkOk_by (own := [("_law_row", 5)]) (N := n_L_is_wrong) (sc := defScope s_L_is_wrong) (by decide +kernel)) (fun _ _ _ _ _ => (pg_name (i := 5) sc_L_is_wrong.nd rfl (Or.inl rfl))) (fun _ _ _ _ _ => (pts_one (pt_cmpR op_notN (pe_c o__law_head (hr.mono (by decide)) pass0 (pa_cons (pv 5) pa_nil)) pe_non (nomark _)))) (fun _ _ _ _ _ => (pe_c o__law_head (hr.mono (by decide)) pass0 (pa_cons (pv 5) pa_nil)))) pa_nil)) rfl)
    (pss_cons (ps_if (PW.pt (pw_or (pt_cmpR op_isN (pv 3) pe_non (nomark _)) (pw_or1 (pt_cmpR op_gt (pe_callB call_len_seq (by rfl) T.b_len (by decide +kernel) (pa_cons (pv 4) pa_nil)) pe_int (nomark _))))) (pss_one (ps_ret pe_bl)) pss_nil)
    (pss_one (ps_ret (pe_and (pe_cmpR (op_neE hr.units0) (pv 4) (pe_lst pa_nil) (nomark _)) (pe_one (pe_cmpR op_le_str (pv 3) (pe_ix ix_list (pv 4) (pe_un un_neg pe_int) (fun _ _ => rfl)) (nomark _))))))))), ?_⟩
  try simp only [tPar, rSlS, rSlL, n_L_is_wrong, L2.start, cxK, cxW, cxK', cxW', is_ss, is_si, is_ii, is_ib, is_is, is_bs, is_ns, is_ni, is_nt, Bool.not_false, Bool.not_true, tSeq, tIfS, tRet, tRetN, tNext, tNever, tAsg, gName, tVar, tC, tOp, tUn, tCons, tNil, tCB, tCall, tTest, tB, tAnd, tOr, tNot, tAndV, tOrV, tNotV, tIf, tChain, rI0, rI, rU, rEq, rNe, List.map_cons, List.map_nil, List.length_cons, List.length_nil, List.replicate, List.cons_append, List.nil_append, List.append_nil, List.getElem?_cons_zero, List.getElem?_cons_succ, List.set_cons_zero, List.set_cons_succ, Option.some.injEq, exists_eq_left', exists_eq_left, exists_eq_right, V.str.injEq, V.int.injEq, V.bl.injEq, V.ref.injEq, V.ty.injEq, List.cons.injEq, and_true, true_and, exists_and_left, Nat.zero_add, Nat.add_sub_cancel, Nat.sub_self, Nat.succ_sub_succ_eq_sub, Nat.reduceSub, Nat.reduceAdd, Nat.sub_zero, tYes, tSl, tPart, tNoPart, if_true, Bool.false_eq_true, if_false, reduceCtorEq, false_and, exists_false, or_false, false_or, scal, tLc_eq, tFor_eq, iStr, iList, iTup, RZ.iZipA, decide_false, decide_true, tM1, tM0, tDrop, tAug, ipI]
  have hline := hok _ (List.getElem_mem hi)
  have eg := getD_at hi
  refine ixL hs (at_row hi) ⟨_, rfl, small' (by have := hline.len; omega), ?_⟩
  rw [cut2_ind]
  cases hind : indB ys[i] with
  | true =>
    rw [if_pos rfl]
    refine ⟨a, kn, ys, names, i, rfl, hs, hkn, hi, hz, hok, fun H' e => ?_⟩
    have q := hQ H' e
    unfold lawB at q
    rw [eg, hind, if_pos rfl] at q
    exact q
  | false =>
    rw [if_neg (by decide)]
    have hl : lawB ys i names = (match modS ys[i] with
      | none => true
      | some m => decide (39 < (headsM ys i).length) || (match (headsM ys i).getLast? with
        | none => false
        | some l => !decide (l.cps.toList < m.cps.toList))) := by
      unfold lawB
      rw [eg, hind, if_neg (by decide)]
    refine ixL hs (at_row hi) ⟨_, rfl, by have := hline.len; omega, fun H1 e1 => ?_⟩
    refine ⟨_, ex_l e1 hs, fun p hp => ⟨⟨_, SqL.of upd_same⟩, ?_⟩⟩
    have e2 : Ex H1 (upd H1 p (.lst (cutV (ys.map V.str) none (some (i : Int))))) := Ex.new hp
    have h2 : upd H1 p (.lst (cutV (ys.map V.str) none (some (i : Int)))) p = some (.lst ((ys.take i).map V.str)) := by rw [upd_same, cut_front (by rw [List.length_map]; omega), List.map_take]
    generalize upd H1 p (.lst (cutV (ys.map V.str) none (some (i : Int)))) = H2 at e2 h2 ⊢
    have htl : (ys.take i).length ≤ 3000000 := by rw [List.length_take]; omega
    have htok : ∀ y ∈ ys.take i, LineOk y := fun y hy => hok y (List.mem_of_mem_take hy)
    refine lcM (gv := V.str) (goes_list (xs := (ys.take i).map V.str) (small (by rw [List.length_map]; omega))) (fun H3 e => ex_l e (SqL.of h2)) (fun y => (modS y).isSome) (fun y => optV (modS y)) (fun y hy H3 e Q' q' => ?_) (fun y hy _ H3 e Q' q' => ?_) (fun D H3 hD e h3 => ?_) (fun _ => rfl)
    · try simp only [wipe, is_ss, is_si, is_ii, is_ib, is_is, is_bs, is_ns, is_ni, is_nt, Bool.not_false, Bool.not_true, tSeq, tIfS, tRet, tRetN, tNext, tNever, tAsg, gName, tVar, tC, tOp, tUn, tCons, tNil, tCB, tCall, tTest, tB, tAnd, tOr, tNot, tAndV, tOrV, tNotV, tIf, tChain, rI0, rI, rU, rEq, rNe, List.map_cons, List.map_nil, List.length_cons, List.length_nil, List.replicate, List.cons_append, List.nil_append, List.append_nil, List.getElem?_cons_zero, List.getElem?_cons_succ, List.set_cons_zero, List.set_cons_succ, Option.some.injEq, exists_eq_left', exists_eq_left, exists_eq_right, V.str.injEq, V.int.injEq, V.bl.injEq, V.ref.injEq, V.ty.injEq, List.cons.injEq, and_true, true_and, exists_and_left, Nat.zero_add, Nat.add_sub_cancel, Nat.sub_self, Nat.succ_sub_succ_eq_sub, Nat.reduceSub, Nat.reduceAdd, Nat.sub_zero, tYes, tSl, tPart, tNoPart, if_true, Bool.false_eq_true, if_false, reduceCtorEq, false_and, exists_false, or_false, false_or, scal, tLc_eq, tFor_eq, iStr, iList, iTup, RZ.iZipA, decide_false, decide_true, tM1, tM0, tDrop, tAug, ipI]
      refine ⟨y, rfl, by have := (htok y hy).len; omega, fun H4 e4 => ?_⟩
      try simp only [is_ss, is_si, is_ii, is_ib, is_is, is_bs, is_ns, is_ni, is_nt, Bool.not_false, Bool.not_true, tSeq, tIfS, tRet, tRetN, tNext, tNever, tAsg, gName, tVar, tC, tOp, tUn, tCons, tNil, tCB, tCall, tTest, tB, tAnd, tOr, tNot, tAndV, tOrV, tNotV, tIf, tChain, rI0, rI, rU, rEq, rNe, List.map_cons, List.map_nil, List.length_cons, List.length_nil, List.replicate, List.cons_append, List.nil_append, List.append_nil, List.getElem?_cons_zero, List.getElem?_cons_succ, List.set_cons_zero, List.set_cons_succ, Option.some.injEq, exists_eq_left', exists_eq_left, exists_eq_right, V.str.injEq, V.int.injEq, V.bl.injEq, V.ref.injEq, V.ty.injEq, List.cons.injEq, and_true, true_and, exists_and_left, Nat.zero_add, Nat.add_sub_cancel, Nat.sub_self, Nat.succ_sub_succ_eq_sub, Nat.reduceSub, Nat.reduceAdd, Nat.sub_zero, tYes, tSl, tPart, tNoPart, if_true, Bool.false_eq_true, if_false, reduceCtorEq, false_and, exists_false, or_false, false_or, scal, tLc_eq, tFor_eq, iStr, iList, iTup, RZ.iZipA, decide_false, decide_true, tM1, tM0, tDrop, tAug, ipI]
      rw [optV_non]
      exact q' H4 e4
    · try simp only [wipe, is_ss, is_si, is_ii, is_ib, is_is, is_bs, is_ns, is_ni, is_nt, Bool.not_false, Bool.not_true, tSeq, tIfS, tRet, tRetN, tNext, tNever, tAsg, gName, tVar, tC, tOp, tUn, tCons, tNil, tCB, tCall, tTest, tB, tAnd, tOr, tNot, tAndV, tOrV, tNotV, tIf, tChain, rI0, rI, rU, rEq, rNe, List.map_cons, List.map_nil, List.length_cons, List.length_nil, List.replicate, List.cons_append, List.nil_append, List.append_nil, List.getElem?_cons_zero, List.getElem?_cons_succ, List.set_cons_zero, List.set_cons_succ, Option.some.injEq, exists_eq_left', exists_eq_left, exists_eq_right, V.str.injEq, V.int.injEq, V.bl.injEq, V.ref.injEq, V.ty.injEq, List.cons.injEq, and_true, true_and, exists_and_left, Nat.zero_add, Nat.add_sub_cancel, Nat.sub_self, Nat.succ_sub_succ_eq_sub, Nat.reduceSub, Nat.reduceAdd, Nat.sub_zero, tYes, tSl, tPart, tNoPart, if_true, Bool.false_eq_true, if_false, reduceCtorEq, false_and, exists_false, or_false, false_or, scal, tLc_eq, tFor_eq, iStr, iList, iTup, RZ.iZipA, decide_false, decide_true, tM1, tM0, tDrop, tAug, ipI]
      exact ⟨y, rfl, by have := (htok y hy).len; omega, q'⟩
    rw [filt_mods] at h3
    have e3 : Ex H H3 := (e1.trans e2).trans e
    refine ⟨_, _, ⟨rfl, rfl⟩, ?_⟩
    cases hm : modS ys[i] with
    | none =>
      rw [if_pos (by rfl)]
      have q := hQ H3 e3
      rw [hl, hm] at q
      exact q
    | some m =>
      rw [hm] at hl
      have hl1 : lawB ys i names = (decide (39 < (headsM ys i).length) || (match (headsM ys i).getLast? with
        | none => false
        | some l => !decide (l.cps.toList < m.cps.toList))) := hl
      rw [if_neg (by simp [optV])]
      refine ⟨D, rfl, _, .inl (SqL.of h3), ?_⟩
      rw [List.length_map, show (ys.take i).filterMap modS = headsM ys i from rfl]
      by_cases h39 : (39 : Int) < (headsM ys i).length
      · rw [if_pos (decide_eq_true h39)]
        have q := hQ H3 e3
        rw [hl1, decide_eq_true (show 39 < (headsM ys i).length by omega), Bool.true_or] at q
        exact q
      · rw [if_neg (by rw [decide_eq_true_eq]; exact h39)]
        rw [decide_eq_false (show ¬ 39 < (headsM ys i).length by omega), Bool.false_or] at hl1
        try simp only [tLst, is_ss, is_si, is_ii, is_ib, is_is, is_bs, is_ns, is_ni, is_nt, Bool.not_false, Bool.not_true, tSeq, tIfS, tRet, tRetN, tNext, tNever, tAsg, gName, tVar, tC, tOp, tUn, tCons, tNil, tCB, tCall, tTest, tB, tAnd, tOr, tNot, tAndV, tOrV, tNotV, tIf, tChain, rI0, rI, rU, rEq, rNe, List.map_cons, List.map_nil, List.length_cons, List.length_nil, List.replicate, List.cons_append, List.nil_append, List.append_nil, List.getElem?_cons_zero, List.getElem?_cons_succ, List.set_cons_zero, List.set_cons_succ, Option.some.injEq, exists_eq_left', exists_eq_left, exists_eq_right, V.str.injEq, V.int.injEq, V.bl.injEq, V.ref.injEq, V.ty.injEq, List.cons.injEq, and_true, true_and, exists_and_left, Nat.zero_add, Nat.add_sub_cancel, Nat.sub_self, Nat.succ_sub_succ_eq_sub, Nat.reduceSub, Nat.reduceAdd, Nat.sub_zero, tYes, tSl, tPart, tNoPart, if_true, Bool.false_eq_true, if_false, reduceCtorEq, false_and, exists_false, or_false, false_or, scal, tLc_eq, tFor_eq, iStr, iList, iTup, RZ.iZipA, decide_false, decide_true, tM1, tM0, tDrop, tAug, ipI]
        refine ⟨Nat.zero_le _, fun p0 hp0 => ?_⟩
        have e4 : Ex H3 (upd H3 p0 (.lst [])) := Ex.new hp0
        refine ⟨D, p0, _, rfl, rfl, SqL.of (e4 D _ h3), SqL.of upd_same, ?_⟩
        refine ⟨_, rfl, ?_⟩
        have q := hQ _ (e3.trans e4)
        show if (!((headsM ys i).map V.str).isEmpty) = true then _ else _
        cases hh : (headsM ys i).getLast? with
        | none =>
          rw [hh] at hl1
          have e5 : headsM ys i = [] := List.getLast?_eq_none_iff.mp hh
          rw [e5, if_neg (by simp)]
          rw [hl1] at q
          exact q
        | some l =>
          rw [hh] at hl1
          have e5 : (headsM ys i) ≠ [] := fun z => by rw [z] at hh; cases hh
          rw [if_pos (by simpa using e5)]
          refine ixL (SqL.of (e4 D _ h3)) (atLast (x := V.str l) ?_) ⟨m, rfl, l, rfl, ?_⟩
          · rw [List.getLast?_map]
            show ((headsM ys i).getLast?).map V.str = _
            rw [hh]
            rfl
          · rw [hl1] at q
            exact q
/-- the first wrong row of the law, counted from 1 -/
def lawFrom (rows names : List Str) (ended : Bool) : Nat → Nat → Option Nat
  | 0, _ => none
  | f + 1, i => if i < rows.length then if (lawB rows i names || (decide (i + 1 = rows.length) && !ended)) = true then some (i + 1) else lawFrom rows names ended f (i + 1) else none
def lawM (t : Str) : Option Nat := if rowsS t = [] then some 1 else lawFrom (rowsS t) ((rowsS t).filterMap modS) (endS t) (rowsS t).length 0
def spLL : Sp := fun vs H Q _ => ∃ t : Str, vs = [.str t] ∧ TextOk t ∧ ∀ H', Ex H H' → Q (optI (lawM t)) H'
theorem o__law_wrong_line (T : Tx w K mg d) (F : Fd K mg "_law_wrong_line" s_L_wrong_line []) (o__law_head : Ok0 P w K mg base 4 "_law_head" ["_law_row"] spHead) (o__law_is_wrong : Ok0 P w K mg base 7 "_law_is_wrong" ["_law_rows", "_law_at", "_law_names"] (spLW K)) :
    Ok0 P w K mg base 8 "_law_wrong_line" ["_law_shown"] spLL := by
  refine mkOk 7 F sc_L_wrong_line (fun _ _ _ _ _ _ us hl => match us, hl with | [_], _ => rfl) (fun vs H Q E h => by obtain ⟨_, rfl, _⟩ := h; rfl) fun f cdv A outer s H vs Q E hr h => ?_
  obtain ⟨t, rfl, ht, hQ⟩ := h
  refine ⟨_, PSs.nox (pss_cons (ps_set (i := 1) sc_L_wrong_line.nd rfl (.inl rfl) (pe_split (pv 0) pe_str))
    (pss_cut (ps_set (i := 2) sc_L_wrong_line.nd rfl (.inl rfl) (pe_bm0 PySem.F.plainAttrs_list PySem.F.slot_list_pop PySem.F.type_list_pop mt_pop (pv 1)))
    (pss_cut (ps_set (i := 1) sc_L_wrong_line.nd rfl (.inl rfl) (pe_op op_cat (pv 1) (pe_op op_rep (pe_lst (pa_cons (pv 2) pa_nil)) (pe_callTy call_int1 (by rfl) T.b_int (by decide +kernel) (pa_cons (pe_cmpR op_ne (pv 2) pe_str (nomark _)) pa_nil)))))
    (pss_cut (ps_setLc (i := 3) (own := [("_law_row", 5)]) rfl sc_L_wrong_line.nd rfl rfl (sw_true rfl rfl rfl (by decide +kernel)) (pi_list (pv 1)) (blkOk_by (own := [("_law_row", 5)]) (N := n_L_wrong_line) (sc := defScope s_L_wrong_line) (by decide +kernel)) (fun _ _ _ _ _ => (pg_name (i := 5) sc_L_wrong_line.nd rfl (Or.inl rfl))) (fun _ _ _ _ _ => (pts_one (pt_cmpR op_notN (pe_c o__law_head (hr.mono (by decide)) pass0 (pa_cons (pv 5) pa_nil)) pe_non (nomark _)))) (fun _ _ _ _ _ => (pe_c o__law_head (hr.mono (by decide)) pass0 (pa_cons (pv 5) pa_nil))))
    (pss_cons (ps_for PassesOwn.never rfl (pi_range1 (by rfl) T.b_range (pa_cons (pe_callB call_len_seq (by rfl) T.b_len (by decide +kernel) (pa_cons (pv 1) pa_nil)) pa_nil)) (pg_name (i := 4) sc_L_wrong_line.nd rfl (.inl rfl)) (pss_one (ps_if (PW.pt (pw_or (pt_val (pe_c o__law_is_wrong (hr.mono (by decide)) pass0 (pa_cons (pv 1) (pa_cons (pv 4) (pa_cons (pv 3) pa_nil))))) (pw_or1 (PW.pt (pw_and (pt_cmpR op_eq (pv 4) (pe_op op_sub (pe_callB call_len_seq (by rfl) T.b_len (by decide +kernel) (pa_cons (pv 1) pa_nil)) pe_int) (nomark _)) (pw_and1 (pt_cmpR op_ne (pv 2) pe_str (nomark _)))))))) (pss_one (ps_ret (pe_op op_add (pv 4) pe_int))) pss_nil)))
    (pss_one (ps_ret (pe_ifExp (pt_cmpR (op_eqE hr.units0) (pv 1) (pe_lst pa_nil) (nomark _)) pe_int pe_non)))))))), ?_⟩
  try simp only [rNewStrs, n_L_wrong_line, L2.start, cxK, cxW, cxK', cxW', is_ss, is_si, is_ii, is_ib, is_is, is_bs, is_ns, is_ni, is_nt, Bool.not_false, Bool.not_true, tSeq, tIfS, tRet, tRetN, tNext, tNever, tAsg, gName, tVar, tC, tOp, tUn, tCons, tNil, tCB, tCall, tTest, tB, tAnd, tOr, tNot, tAndV, tOrV, tNotV, tIf, tChain, rI0, rI, rU, rEq, rNe, List.map_cons, List.map_nil, List.length_cons, List.length_nil, List.replicate, List.cons_append, List.nil_append, List.append_nil, List.getElem?_cons_zero, List.getElem?_cons_succ, List.set_cons_zero, List.set_cons_succ, Option.some.injEq, exists_eq_left', exists_eq_left, exists_eq_right, V.str.injEq, V.int.injEq, V.bl.injEq, V.ref.injEq, V.ty.injEq, List.cons.injEq, and_true, true_and, exists_and_left, Nat.zero_add, Nat.add_sub_cancel, Nat.sub_self, Nat.succ_sub_succ_eq_sub, Nat.reduceSub, Nat.reduceAdd, Nat.sub_zero, tYes, tSl, tPart, tNoPart, if_true, Bool.false_eq_true, if_false, reduceCtorEq, false_and, exists_false, or_false, false_or, scal, tLc_eq, tFor_eq, iStr, iList, iTup, RZ.iZipA, decide_false, decide_true, tM1, tM0, tDrop, tAug, ipI]
  refine ⟨⟨_, rfl⟩, by rw [len_nl]; rfl, small' (by have := ht.len; omega), fun p hp => ?_⟩
  have e1 : Ex H (upd H p (.lst ((linesS t).map V.str))) := Ex.new hp
  obtain ⟨z, hz⟩ : ∃ z, (linesS t).getLast? = some z := ⟨_, List.getLast?_eq_some_getLast (lines_ne t)⟩
  have ez : endS t = decide (z = Str.ofString "") := by
    unfold endS
    rw [hz]
    simp
  have hrok := rows_ok ht
  have hrl := rows_len ht
  refine ⟨fun σ' H' => σ' = [some (.str t), some (.ref p), some (.str z), none, none, none] ∧ Ex H H' ∧ H' p = some (.lst ((linesS t).dropLast.map V.str)), ?_, ?_⟩
  · try simp only [tBM0, is_ss, is_si, is_ii, is_ib, is_is, is_bs, is_ns, is_ni, is_nt, Bool.not_false, Bool.not_true, tSeq, tIfS, tRet, tRetN, tNext, tNever, tAsg, gName, tVar, tC, tOp, tUn, tCons, tNil, tCB, tCall, tTest, tB, tAnd, tOr, tNot, tAndV, tOrV, tNotV, tIf, tChain, rI0, rI, rU, rEq, rNe, List.map_cons, List.map_nil, List.length_cons, List.length_nil, List.replicate, List.cons_append, List.nil_append, List.append_nil, List.getElem?_cons_zero, List.getElem?_cons_succ, List.set_cons_zero, List.set_cons_succ, Option.some.injEq, exists_eq_left', exists_eq_left, exists_eq_right, V.str.injEq, V.int.injEq, V.bl.injEq, V.ref.injEq, V.ty.injEq, List.cons.injEq, and_true, true_and, exists_and_left, Nat.zero_add, Nat.add_sub_cancel, Nat.sub_self, Nat.succ_sub_succ_eq_sub, Nat.reduceSub, Nat.reduceAdd, Nat.sub_zero, tYes, tSl, tPart, tNoPart, if_true, Bool.false_eq_true, if_false, reduceCtorEq, false_and, exists_false, or_false, false_or, scal, tLc_eq, tFor_eq, iStr, iList, iTup, RZ.iZipA, decide_false, decide_true, tM1, tM0, tDrop, tAug, ipI]
    refine ⟨tyL (SqL.of upd_same), p, _, .str z, rfl, rfl, upd_same, ?_, ?_⟩
    · rw [← List.getLast?_eq_getElem?, List.getLast?_map]
      show ((linesS t).getLast?).map V.str = _
      rw [hz]
      rfl
    · refine ⟨rfl, Ex.mut e1 hp, ?_⟩
      rw [upd_same, List.map_dropLast]
  rintro σ' H1 ⟨rfl, e2, h1⟩
  clear e1
  refine ⟨fun σ' H' => ∃ r, σ' = [some (.str t), some (.ref r), some (.str z), none, none, none] ∧ Ex H H' ∧ H' r = some (.lst ((rowsS t).map V.str)), ?_, ?_⟩
  · try simp only [tLst, is_ss, is_si, is_ii, is_ib, is_is, is_bs, is_ns, is_ni, is_nt, Bool.not_false, Bool.not_true, tSeq, tIfS, tRet, tRetN, tNext, tNever, tAsg, gName, tVar, tC, tOp, tUn, tCons, tNil, tCB, tCall, tTest, tB, tAnd, tOr, tNot, tAndV, tOrV, tNotV, tIf, tChain, rI0, rI, rU, rEq, rNe, List.map_cons, List.map_nil, List.length_cons, List.length_nil, List.replicate, List.cons_append, List.nil_append, List.append_nil, List.getElem?_cons_zero, List.getElem?_cons_succ, List.set_cons_zero, List.set_cons_succ, Option.some.injEq, exists_eq_left', exists_eq_left, exists_eq_right, V.str.injEq, V.int.injEq, V.bl.injEq, V.ref.injEq, V.ty.injEq, List.cons.injEq, and_true, true_and, exists_and_left, Nat.zero_add, Nat.add_sub_cancel, Nat.sub_self, Nat.succ_sub_succ_eq_sub, Nat.reduceSub, Nat.reduceAdd, Nat.sub_zero, tYes, tSl, tPart, tNoPart, if_true, Bool.false_eq_true, if_false, reduceCtorEq, false_and, exists_false, or_false, false_or, scal, tLc_eq, tFor_eq, iStr, iList, iTup, RZ.iZipA, decide_false, decide_true, tM1, tM0, tDrop, tAug, ipI]
    refine ⟨Nat.le_of_ble_eq_true rfl, fun q hq => ?_⟩
    have e3 : Ex H1 (upd H1 q (.lst [V.str z])) := Ex.new hq
    have hb : ∀ k : Int, k = (if (!decide (z = Str.ofString "")) = true then 1 else 0) → ∃ l k2 xs, V.ref q = .ref l ∧ V.int k = .int k2 ∧ upd H1 q (.lst [V.str z]) l = some (.lst xs) ∧ -(2 ^ 63) ≤ k2 ∧ k2 < 2 ^ 63 ∧ xs.length * k2.toNat ≤ sizeLine ∧
        ∀ p2, upd H1 q (.lst [V.str z]) p2 = none → rCat (.ref p) (.ref p2) (upd (upd H1 q (.lst [V.str z])) p2 (.lst (List.replicate k2.toNat xs).flatten)) fun x H2 => ∃ r, x = V.ref r ∧ Ex H H2 ∧ H2 r = some (.lst ((rowsS t).map V.str)) := by
      intro k hk
      have hk2 : k = 0 ∨ k = 1 := by
        rw [hk]
        split
        · exact .inr rfl
        · exact .inl rfl
      refine ⟨q, k, [V.str z], rfl, rfl, upd_same, by rcases hk2 with h | h <;> rw [h] <;> decide, by rcases hk2 with h | h <;> rw [h] <;> decide, by rcases hk2 with h | h <;> rw [h] <;> exact Nat.le_of_ble_eq_true rfl, fun p2 hp2 => ?_⟩
      have e4 : Ex (upd H1 q (.lst [V.str z])) (upd (upd H1 q (.lst [V.str z])) p2 (.lst (List.replicate k.toNat [V.str z]).flatten)) := Ex.new hp2
      have hll : (linesS t).length ≤ 1000001 := by have := lines_len t; have := ht.len; omega
      refine catQ (e4 p _ (e3 p _ h1)) upd_same ?_ fun r hr => ⟨r, rfl, ((e2.trans e3).trans e4).trans (Ex.new hr), ?_⟩
      · rw [List.length_map, List.length_dropLast]
        have : (List.replicate k.toNat [V.str z]).flatten.length ≤ 1 := by rcases hk2 with h | h <;> rw [h] <;> simp
        exact Nat.le_of_lt (small (by omega))
      · rw [upd_same]
        congr 2
        unfold rowsS
        rw [ez]
        cases hd : decide (z = Str.ofString "") with
        | true =>
          rw [hd] at hk
          rw [hk, if_neg (by decide)]
          simp
        | false =>
          rw [hd] at hk
          rw [hk, if_pos (by rfl)]
          have e5 := List.dropLast_concat_getLast (lines_ne t)
          rw [List.getLast?_eq_some_getLast (lines_ne t), Option.some.injEq] at hz
          rw [hz] at e5
          show _ = List.map V.str (linesS t)
          rw [← e5]
          simp
    exact hb _ rfl
  rintro σ' H2 ⟨r, rfl, e3, h2⟩
  refine ⟨fun σ' H' => ∃ kn, σ' = [some (.str t), some (.ref r), some (.str z), some (V.ref kn), none, none] ∧ Ex H H' ∧ H' r = some (.lst ((rowsS t).map V.str)) ∧ H' kn = some (.lst (((rowsS t).filterMap modS).map V.str)), ?_, ?_⟩
  · try simp only [is_ss, is_si, is_ii, is_ib, is_is, is_bs, is_ns, is_ni, is_nt, Bool.not_false, Bool.not_true, tSeq, tIfS, tRet, tRetN, tNext, tNever, tAsg, gName, tVar, tC, tOp, tUn, tCons, tNil, tCB, tCall, tTest, tB, tAnd, tOr, tNot, tAndV, tOrV, tNotV, tIf, tChain, rI0, rI, rU, rEq, rNe, List.map_cons, List.map_nil, List.length_cons, List.length_nil, List.replicate, List.cons_append, List.nil_append, List.append_nil, List.getElem?_cons_zero, List.getElem?_cons_succ, List.set_cons_zero, List.set_cons_succ, Option.some.injEq, exists_eq_left', exists_eq_left, exists_eq_right, V.str.injEq, V.int.injEq, V.bl.injEq, V.ref.injEq, V.ty.injEq, List.cons.injEq, and_true, true_and, exists_and_left, Nat.zero_add, Nat.add_sub_cancel, Nat.sub_self, Nat.succ_sub_succ_eq_sub, Nat.reduceSub, Nat.reduceAdd, Nat.sub_zero, tYes, tSl, tPart, tNoPart, if_true, Bool.false_eq_true, if_false, reduceCtorEq, false_and, exists_false, or_false, false_or, scal, tLc_eq, tFor_eq, iStr, iList, iTup, RZ.iZipA, decide_false, decide_true, tM1, tM0, tDrop, tAug, ipI]
    refine ⟨⟨_, SqL.of h2⟩, ?_⟩
    refine lcM (gv := V.str) (goes_list (xs := (rowsS t).map V.str) (small (by rw [List.length_map]; omega))) (fun H3 e => ex_l e (SqL.of h2)) (fun y => (modS y).isSome) (fun y => optV (modS y)) (fun y hy H3 e Q' q' => ?_) (fun y hy _ H3 e Q' q' => ?_) (fun D H3 hD e h3 => ?_) (fun _ => rfl)
    · try simp only [wipe, is_ss, is_si, is_ii, is_ib, is_is, is_bs, is_ns, is_ni, is_nt, Bool.not_false, Bool.not_true, tSeq, tIfS, tRet, tRetN, tNext, tNever, tAsg, gName, tVar, tC, tOp, tUn, tCons, tNil, tCB, tCall, tTest, tB, tAnd, tOr, tNot, tAndV, tOrV, tNotV, tIf, tChain, rI0, rI, rU, rEq, rNe, List.map_cons, List.map_nil, List.length_cons, List.length_nil, List.replicate, List.cons_append, List.nil_append, List.append_nil, List.getElem?_cons_zero, List.getElem?_cons_succ, List.set_cons_zero, List.set_cons_succ, Option.some.injEq, exists_eq_left', exists_eq_left, exists_eq_right, V.str.injEq, V.int.injEq, V.bl.injEq, V.ref.injEq, V.ty.injEq, List.cons.injEq, and_true, true_and, exists_and_left, Nat.zero_add, Nat.add_sub_cancel, Nat.sub_self, Nat.succ_sub_succ_eq_sub, Nat.reduceSub, Nat.reduceAdd, Nat.sub_zero, tYes, tSl, tPart, tNoPart, if_true, Bool.false_eq_true, if_false, reduceCtorEq, false_and, exists_false, or_false, false_or, scal, tLc_eq, tFor_eq, iStr, iList, iTup, RZ.iZipA, decide_false, decide_true, tM1, tM0, tDrop, tAug, ipI]
      refine ⟨y, rfl, by have := (hrok y hy).len; omega, fun H4 e4 => ?_⟩
      try simp only [is_ss, is_si, is_ii, is_ib, is_is, is_bs, is_ns, is_ni, is_nt, Bool.not_false, Bool.not_true, tSeq, tIfS, tRet, tRetN, tNext, tNever, tAsg, gName, tVar, tC, tOp, tUn, tCons, tNil, tCB, tCall, tTest, tB, tAnd, tOr, tNot, tAndV, tOrV, tNotV, tIf, tChain, rI0, rI, rU, rEq, rNe, List.map_cons, List.map_nil, List.length_cons, List.length_nil, List.replicate, List.cons_append, List.nil_append, List.append_nil, List.getElem?_cons_zero, List.getElem?_cons_succ, List.set_cons_zero, List.set_cons_succ, Option.some.injEq, exists_eq_left', exists_eq_left, exists_eq_right, V.str.injEq, V.int.injEq, V.bl.injEq, V.ref.injEq, V.ty.injEq, List.cons.injEq, and_true, true_and, exists_and_left, Nat.zero_add, Nat.add_sub_cancel, Nat.sub_self, Nat.succ_sub_succ_eq_sub, Nat.reduceSub, Nat.reduceAdd, Nat.sub_zero, tYes, tSl, tPart, tNoPart, if_true, Bool.false_eq_true, if_false, reduceCtorEq, false_and, exists_false, or_false, false_or, scal, tLc_eq, tFor_eq, iStr, iList, iTup, RZ.iZipA, decide_false, decide_true, tM1, tM0, tDrop, tAug, ipI]
      rw [optV_non]
      exact q' H4 e4
    · try simp only [wipe, is_ss, is_si, is_ii, is_ib, is_is, is_bs, is_ns, is_ni, is_nt, Bool.not_false, Bool.not_true, tSeq, tIfS, tRet, tRetN, tNext, tNever, tAsg, gName, tVar, tC, tOp, tUn, tCons, tNil, tCB, tCall, tTest, tB, tAnd, tOr, tNot, tAndV, tOrV, tNotV, tIf, tChain, rI0, rI, rU, rEq, rNe, List.map_cons, List.map_nil, List.length_cons, List.length_nil, List.replicate, List.cons_append, List.nil_append, List.append_nil, List.getElem?_cons_zero, List.getElem?_cons_succ, List.set_cons_zero, List.set_cons_succ, Option.some.injEq, exists_eq_left', exists_eq_left, exists_eq_right, V.str.injEq, V.int.injEq, V.bl.injEq, V.ref.injEq, V.ty.injEq, List.cons.injEq, and_true, true_and, exists_and_left, Nat.zero_add, Nat.add_sub_cancel, Nat.sub_self, Nat.succ_sub_succ_eq_sub, Nat.reduceSub, Nat.reduceAdd, Nat.sub_zero, tYes, tSl, tPart, tNoPart, if_true, Bool.false_eq_true, if_false, reduceCtorEq, false_and, exists_false, or_false, false_or, scal, tLc_eq, tFor_eq, iStr, iList, iTup, RZ.iZipA, decide_false, decide_true, tM1, tM0, tDrop, tAug, ipI]
      exact ⟨y, rfl, by have := (hrok y hy).len; omega, q'⟩
    · rw [filt_mods] at h3
      exact ⟨D, rfl, e3.trans e, e r _ h2, h3⟩
  rintro σ' H3 ⟨kn, rfl, e4, h3, h3k⟩
  try simp only [iRng1, is_ss, is_si, is_ii, is_ib, is_is, is_bs, is_ns, is_ni, is_nt, Bool.not_false, Bool.not_true, tSeq, tIfS, tRet, tRetN, tNext, tNever, tAsg, gName, tVar, tC, tOp, tUn, tCons, tNil, tCB, tCall, tTest, tB, tAnd, tOr, tNot, tAndV, tOrV, tNotV, tIf, tChain, rI0, rI, rU, rEq, rNe, List.map_cons, List.map_nil, List.length_cons, List.length_nil, List.replicate, List.cons_append, List.nil_append, List.append_nil, List.getElem?_cons_zero, List.getElem?_cons_succ, List.set_cons_zero, List.set_cons_succ, Option.some.injEq, exists_eq_left', exists_eq_left, exists_eq_right, V.str.injEq, V.int.injEq, V.bl.injEq, V.ref.injEq, V.ty.injEq, List.cons.injEq, and_true, true_and, exists_and_left, Nat.zero_add, Nat.add_sub_cancel, Nat.sub_self, Nat.succ_sub_succ_eq_sub, Nat.reduceSub, Nat.reduceAdd, Nat.sub_zero, tYes, tSl, tPart, tNoPart, if_true, Bool.false_eq_true, if_false, reduceCtorEq, false_and, exists_false, or_false, false_or, scal, tLc_eq, tFor_eq, iStr, iList, iTup, RZ.iZipA, decide_false, decide_true, tM1, tM0, tDrop, tAug, ipI]
  refine ⟨_, .inl (SqL.of h3), by omega, by rw [List.length_map]; omega, ?_⟩
  rw [List.length_map, Int.toNat_natCast]
  obtain ⟨W, hW⟩ : ∃ W : Nat → L2.St → Hp → Prop, ∀ i σ' H', W i σ' H' ↔ ∃ x4, σ' = [some (.str t), some (.ref r), some (.str z), some (V.ref kn), x4, none] ∧ Ex H3 H' ∧
    lawFrom (rowsS t) ((rowsS t).filterMap modS) (endS t) (rowsS t).length 0 = lawFrom (rowsS t) ((rowsS t).filterMap modS) (endS t) ((rowsS t).length - i) i := ⟨_, fun _ _ _ => Iff.rfl⟩
  refine forP (goes_rng (small (by omega))) W ((hW _ _ _).mpr ⟨none, rfl, Ex.refl _, rfl⟩) (fun _ _ _ _ => trivial) ?_ ?_
  · intro i σ' H' H4 hi hw e5
    obtain ⟨x4, rfl, e6, hf⟩ := (hW _ _ _).mp hw
    have h4 := e5 r _ (e6 r _ h3)
    have hne : rowsS t ≠ [] := fun z => by rw [z] at hi; exact absurd hi (Nat.not_lt_zero _)
    have hlm : lawM t = lawFrom (rowsS t) ((rowsS t).filterMap modS) (endS t) (rowsS t).length 0 := if_neg hne
    have hstep : lawFrom (rowsS t) ((rowsS t).filterMap modS) (endS t) ((rowsS t).length - i) i = if (lawB (rowsS t) i ((rowsS t).filterMap modS) || (decide (i + 1 = (rowsS t).length) && !endS t)) = true then some (i + 1) else lawFrom (rowsS t) ((rowsS t).filterMap modS) (endS t) ((rowsS t).length - (i + 1)) (i + 1) := by
      rw [show (rowsS t).length - i = ((rowsS t).length - (i + 1)) + 1 by omega]
      show (if i < (rowsS t).length then _ else none) = _
      rw [if_pos hi]
    try simp only [is_ss, is_si, is_ii, is_ib, is_is, is_bs, is_ns, is_ni, is_nt, Bool.not_false, Bool.not_true, tSeq, tIfS, tRet, tRetN, tNext, tNever, tAsg, gName, tVar, tC, tOp, tUn, tCons, tNil, tCB, tCall, tTest, tB, tAnd, tOr, tNot, tAndV, tOrV, tNotV, tIf, tChain, rI0, rI, rU, rEq, rNe, List.map_cons, List.map_nil, List.length_cons, List.length_nil, List.replicate, List.cons_append, List.nil_append, List.append_nil, List.getElem?_cons_zero, List.getElem?_cons_succ, List.set_cons_zero, List.set_cons_succ, Option.some.injEq, exists_eq_left', exists_eq_left, exists_eq_right, V.str.injEq, V.int.injEq, V.bl.injEq, V.ref.injEq, V.ty.injEq, List.cons.injEq, and_true, true_and, exists_and_left, Nat.zero_add, Nat.add_sub_cancel, Nat.sub_self, Nat.succ_sub_succ_eq_sub, Nat.reduceSub, Nat.reduceAdd, Nat.sub_zero, tYes, tSl, tPart, tNoPart, if_true, Bool.false_eq_true, if_false, reduceCtorEq, false_and, exists_false, or_false, false_or, scal, tLc_eq, tFor_eq, iStr, iList, iTup, RZ.iZipA, decide_false, decide_true, tM1, tM0, tDrop, tAug, ipI]
    rw [Int.zero_add]
    refine ⟨r, kn, rowsS t, _, i, rfl, SqL.of h4, SqL.of (e5 kn _ (e6 kn _ h3k)), hi, by omega, hrok, fun H5 e7 => ⟨_, rfl, ?_⟩⟩
    have hx := ((e4.trans e6).trans e5).trans e7
    have hret : (lawB (rowsS t) i ((rowsS t).filterMap modS) || (decide (i + 1 = (rowsS t).length) && !endS t)) = true → Q (V.int ((i : Int) + 1)) H5 := fun h => by
      have q := hQ H5 hx
      rw [hlm, hf, hstep, if_pos h] at q
      exact q
    have hgo : ¬ (lawB (rowsS t) i ((rowsS t).filterMap modS) || (decide (i + 1 = (rowsS t).length) && !endS t)) = true → W (i + 1) [some (V.str t), some (V.ref r), some (V.str z), some (V.ref kn), some (V.int (i : Int)), none] H5 := fun h => by
      refine (hW _ _ _).mpr ⟨_, rfl, (e6.trans e5).trans e7, ?_⟩
      rw [hf, hstep, if_neg h]
    cases hlb : lawB (rowsS t) i ((rowsS t).filterMap modS) with
    | true =>
      rw [if_pos rfl]
      exact hret (by rw [hlb]; rfl)
    | false =>
      rw [if_neg (by decide)]
      rw [hlb, Bool.false_or] at hret hgo
      refine ⟨_, .inl (SqL.of (e7 r _ h4)), ?_⟩
      rw [List.length_map]
      by_cases hlast : i + 1 = (rowsS t).length
      · rw [if_pos (decide_eq_true (by omega))]
        rw [decide_eq_true hlast, Bool.true_and, ez] at hret hgo
        cases hd : decide (z = Str.ofString "") with
        | true =>
          rw [hd] at hgo
          rw [if_neg (by decide)]
          exact hgo (by decide)
        | false =>
          rw [hd] at hret
          rw [if_pos (by rfl)]
          exact hret (by rfl)
      · rw [if_neg (by rw [decide_eq_true_eq]; omega)]
        rw [decide_eq_false hlast, Bool.false_and] at hgo
        exact hgo (by decide)
  · intro σ' H' hw
    obtain ⟨x4, rfl, e6, hf⟩ := (hW _ _ _).mp hw
    try simp only [tLst, is_ss, is_si, is_ii, is_ib, is_is, is_bs, is_ns, is_ni, is_nt, Bool.not_false, Bool.not_true, tSeq, tIfS, tRet, tRetN, tNext, tNever, tAsg, gName, tVar, tC, tOp, tUn, tCons, tNil, tCB, tCall, tTest, tB, tAnd, tOr, tNot, tAndV, tOrV, tNotV, tIf, tChain, rI0, rI, rU, rEq, rNe, List.map_cons, List.map_nil, List.length_cons, List.length_nil, List.replicate, List.cons_append, List.nil_append, List.append_nil, List.getElem?_cons_zero, List.getElem?_cons_succ, List.set_cons_zero, List.set_cons_succ, Option.some.injEq, exists_eq_left', exists_eq_left, exists_eq_right, V.str.injEq, V.int.injEq, V.bl.injEq, V.ref.injEq, V.ty.injEq, List.cons.injEq, and_true, true_and, exists_and_left, Nat.zero_add, Nat.add_sub_cancel, Nat.sub_self, Nat.succ_sub_succ_eq_sub, Nat.reduceSub, Nat.reduceAdd, Nat.sub_zero, tYes, tSl, tPart, tNoPart, if_true, Bool.false_eq_true, if_false, reduceCtorEq, false_and, exists_false, or_false, false_or, scal, tLc_eq, tFor_eq, iStr, iList, iTup, RZ.iZipA, decide_false, decide_true, tM1, tM0, tDrop, tAug, ipI]
    have h0 : lawFrom (rowsS t) ((rowsS t).filterMap modS) (endS t) ((rowsS t).length - (rowsS t).length) (rowsS t).length = none := by
      rw [Nat.sub_self]
      rfl
    rw [h0] at hf
    refine ⟨Nat.zero_le _, fun p0 hp0 => ?_⟩
    have e7 : Ex H' (upd H' p0 (.lst [])) := Ex.new hp0
    refine ⟨r, p0, _, rfl, rfl, SqL.of (e7 r _ (e6 r _ h3)), SqL.of upd_same, ⟨_, rfl, ?_⟩⟩
    have q := hQ _ ((e4.trans e6).trans e7)
    unfold lawM at q
    show if ((rowsS t).map V.str).isEmpty = true then _ else _
    by_cases hne : rowsS t = []
    · rw [if_pos hne] at q
      rw [if_pos (by rw [hne]; rfl)]
      exact q
    · rw [if_neg hne, hf] at q
      rw [if_neg (by simpa using hne)]
      exact q

end K17

-- text K17M1
set_option maxHeartbeats 8000000
namespace K17
open PySem PySem.Spec PyProof.Rows L2 Evl
variable {P : Program} {w : World} {K : PySem.W.Frag} {mg : Str → Option Value} {base : Heap} {d : Ad}
/-! ## the law's wrong line is the program's -/
theorem nm_ne {m : Str} (h : nmB m = true) : m.cps.toList ≠ [] := by
  intro e
  have e2 : TL.tl m = [] := e
  rw [show nmB m = nmL (TL.tl m) from rfl, e2] at h
  exact absurd h (by decide)
theorem leS_empty {m : Str} (h : nmB m = true) : leS m (Str.ofString "") = false := by
  have h2 := nm_ne h
  unfold leS
  rw [show (Str.ofString "").cps.toList = [] from by decide +kernel]
  cases hc : m.cps.toList with
  | nil => exact absurd hc h2
  | cons a r => simp
/-- the row below which a block stands -/
theorem backM_block {ys : List Str} {i : Nat} (h0 : i < ys.length) (hi : indB ys[i] = false) : ∀ j, i + 1 + j ≤ ys.length → (∀ k (hk : k < ys.length), i < k → k < i + 1 + j → indB ys[k] = true) → backM ys (i + 1 + j) = some i := by
  intro j
  induction j with
  | zero =>
    intro h1 _
    show (if indB (ys.getD i nlS) = true then backM ys i else some i) = some i
    rw [getD_at h0, hi]
    rfl
  | succ j ih =>
    intro h1 h2
    have hk : i + 1 + j < ys.length := by omega
    show (if indB (ys.getD (i + 1 + j) nlS) = true then backM ys (i + 1 + j) else some (i + 1 + j)) = some i
    rw [getD_at hk, h2 _ hk (by omega) (by omega), if_pos rfl]
    exact ih (by omega) fun k hk a b => h2 k hk a (by omega)
theorem block_at {ys : List Str} {s j : Nat} (hj : j < (blockS ys s).length) (hk : s + j < ys.length) : (blockS ys s)[j] = ys[s + j] := by
  have h := drop_block ys s
  have e1 : (ys.drop s)[j]? = some ys[s + j] := by rw [List.getElem?_drop, List.getElem?_eq_getElem hk]
  rw [h, List.getElem?_append_left hj, List.getElem?_eq_getElem hj] at e1
  exact Option.some.inj e1
theorem tw_drop (p : Str → Bool) : ∀ (l : List Str) (j : Nat), j ≤ (l.takeWhile p).length → ((l.drop j).takeWhile p).length = (l.takeWhile p).length - j := by
  intro l
  induction l with
  | nil => intro j h; simp
  | cons a r ih =>
    intro j h
    cases j with
    | zero => simp
    | succ j =>
      rw [List.takeWhile_cons] at h ⊢
      by_cases ha : p a = true
      · rw [if_pos ha] at h ⊢
        rw [List.length_cons] at h ⊢
        rw [List.drop_succ_cons, ih j (by omega)]
        omega
      · rw [if_neg ha] at h
        simp at h
theorem block_rest {ys : List Str} {s j : Nat} (hj : j < (blockS ys s).length) : (blockS ys (s + j + 1)).length = (blockS ys s).length - 1 - j := by
  unfold blockS at hj ⊢
  rw [show s + j + 1 = s + (j + 1) by omega, ← List.drop_drop, tw_drop indB _ (j + 1) (by omega)]
  omega
theorem law_in {ys names : List Str} {i j : Nat} {m : Str} (h0 : i < ys.length) (hm : modS ys[i] = some m) (hj : j < (blockS ys (i + 1)).length) : lawB ys (i + 1 + j) names = badAt (blockS ys (i + 1)) names j := by
  have hbl := block_len ys (i + 1)
  have hk : i + 1 + j < ys.length := by omega
  have hni : indB ys[i] = false := by
    cases q : indB ys[i] with
    | false => rfl
    | true => rw [modS_ind q] at hm; cases hm
  have hin : ∀ k (hk : k < ys.length), i < k → k < i + 1 + (blockS ys (i + 1)).length → indB ys[k] = true := by
    intro k hk a b
    have hj2 : k - (i + 1) < (blockS ys (i + 1)).length := by omega
    have e := block_at hj2 (by omega)
    have e3 : ys[k] = (blockS ys (i + 1))[k - (i + 1)] := by
      rw [e]
      congr 1
      omega
    rw [e3]
    exact block_ind _ (List.getElem_mem hj2)
  have hind : indB ys[i + 1 + j] = true := hin _ hk (by omega) (by omega)
  have hbk : blkM ys (i + 1 + j) = some (i + 1) := by
    unfold blkM
    rw [show i + 1 + j + 1 = i + 1 + (j + 1) by omega, backM_block h0 hni (j + 1) (by omega) fun k hk a b => hin k hk a (by omega)]
    show (if (modS (ys.getD i nlS)).isSome = true then some (i + 1) else none) = _
    rw [getD_at h0, hm]
    rfl
  unfold lawB
  rw [getD_at hk, hind, if_pos rfl]
  unfold lawStepB
  rw [hbk]
  show (match readW (wordsS (restS (ys.getD (i + 1 + j) nlS))) with
    | none => true
    | some items => decide ((29 : Int) < ((i + 1 + j : Nat) : Int) - ((i + 1 : Nat) : Int)) || wrongI items ((blockS ys (i + 1 + j + 1)).length : Int) names) = _
  rw [getD_at hk]
  unfold badAt wrongRow
  have eb : (blockS ys (i + 1)).getD j (Str.ofString "") = ys[i + 1 + j] := by
    rw [List.getD_eq_getElem?_getD, List.getElem?_eq_getElem hj]
    exact block_at hj hk
  rw [eb]
  unfold solM
  rw [if_pos hind]
  have er : ((blockS ys (i + 1 + j + 1)).length : Int) = ((blockS ys (i + 1)).length : Int) - 1 - (j : Nat) := by
    rw [block_rest hj]
    omega
  rw [er]
  have ed : decide ((29 : Int) < ((i + 1 + j : Nat) : Int) - ((i + 1 : Nat) : Int)) = decide (30 ≤ j) := by
    rw [decide_eq_decide]
    omega
  rw [ed]
  cases readW (wordsS (restS ys[i + 1 + j])) with
  | none => exact (Bool.or_true _).symm
  | some items => rfl
theorem heads_at {ys : List Str} {i : Nat} (h : i < ys.length) : headsM ys (i + 1) = headsM ys i ++ (modS ys[i]).toList := by
  unfold headsM
  rw [List.take_add_one, List.getElem?_eq_getElem h, List.filterMap_append]
  congr 1
theorem heads_block {ys : List Str} {i : Nat} : ∀ j, i + j ≤ ys.length → (∀ k (hk : k < ys.length), i ≤ k → k < i + j → indB ys[k] = true) → headsM ys (i + j) = headsM ys i := by
  intro j
  induction j with
  | zero => intro _ _; rfl
  | succ j ih =>
    intro h1 h2
    have hk : i + j < ys.length := by omega
    rw [show i + (j + 1) = i + j + 1 by omega, heads_at hk, modS_ind (h2 _ hk (by omega) (by omega)), ih (by omega) fun k hk a b => h2 k hk a (by omega)]
    simp
/-- the first wrong row -/
def FirstL (ys names : List Str) : Option Nat → Prop
  | some k => k < ys.length ∧ lawB ys k names = true ∧ ∀ j, j < k → lawB ys j names = false
  | none => ∀ j, j < ys.length → lawB ys j names = false
theorem fw_first {ys names : List Str} : ∀ (fu i c : Nat) (b : Str), ys.length - i + 1 ≤ fu → i ≤ ys.length → (i = 0 ∨ ∀ h : i < ys.length, indB ys[i] = false) → (∀ j, j < i → lawB ys j names = false) →
    (headsM ys i).length = c → (c = 0 → b = Str.ofString "") → (c ≠ 0 → (headsM ys i).getLast? = some b) → FirstL ys names (fwM ys names fu i c b) := by
  intro fu
  induction fu with
  | zero => intro i c b h; omega
  | succ fu ih =>
    intro i c b hfu hil hni hpast hlen hb0 hb1
    by_cases hi : i < ys.length
    · have eg : ys.getD i (Str.ofString "") = ys[i] := by rw [List.getD_eq_getElem?_getD, List.getElem?_eq_getElem hi]; rfl
      have h1 : fwM ys names (fu + 1) i c b = (match modS ys[i] with
        | none => some i
        | some m => if (leS m b || decide (40 < c + 1)) = true then some i else
            match probS (blockS ys (i + 1)) names with
            | some k => some (i + 1 + k)
            | none => fwM ys names fu (i + 1 + (blockS ys (i + 1)).length) (c + 1) m) := by
        show (if i < ys.length then _ else none) = _
        rw [if_pos hi, eg]
        all_goals cases modS ys[i] with
        | none => rfl
        | some m => rfl
      rw [h1]
      cases hm : modS ys[i] with
      | none =>
        refine ⟨hi, ?_, hpast⟩
        unfold lawB
        rw [getD_at hi]
        by_cases hind : indB ys[i] = true
        · rw [if_pos hind]
          have h00 : i = 0 := by
            rcases hni with z | z
            · exact z
            · rw [z hi] at hind; cases hind
          subst h00
          unfold lawStepB blkM
          have e : backM ys (0 + 1) = none := by
            show (if indB (ys.getD 0 nlS) = true then backM ys 0 else some 0) = none
            rw [getD_at hi, if_pos hind]
            rfl
          rw [e]
        · rw [if_neg hind, hm]
      | some m =>
        obtain ⟨hy, hn⟩ := modS_head hm
        have hind : indB ys[i] = false := by
          cases q : indB ys[i] with
          | false => rfl
          | true => rw [modS_ind q] at hm; cases hm
        have hlaw : lawB ys i names = (leS m b || decide (40 < c + 1)) := by
          unfold lawB
          rw [getD_at hi, hind, if_neg (by decide), hm]
          show (decide (39 < (headsM ys i).length) || _) = _
          rw [hlen, Bool.or_comm]
          congr 1
          · by_cases hc : c = 0
            · have e : headsM ys i = [] := List.length_eq_zero_iff.mp (by omega)
              rw [e, hb0 hc, leS_empty hn]
              rfl
            · rw [hb1 hc]
              rfl
          · rw [decide_eq_decide]
            omega
        show FirstL ys names (if (leS m b || decide (40 < c + 1)) = true then some i else
            match probS (blockS ys (i + 1)) names with
            | some k => some (i + 1 + k)
            | none => fwM ys names fu (i + 1 + (blockS ys (i + 1)).length) (c + 1) m)
        by_cases hbad : (leS m b || decide (40 < c + 1)) = true
        · rw [if_pos hbad]
          exact ⟨hi, by rw [hlaw, hbad], hpast⟩
        · rw [if_neg hbad]
          have hbl := block_len ys (i + 1)
          have hgood : lawB ys i names = false := by rw [hlaw]; simpa using hbad
          have hpast2 : ∀ k, k ≤ (blockS ys (i + 1)).length → (∀ j, j < k → badAt (blockS ys (i + 1)) names j = false) → ∀ j, j < i + 1 + k → lawB ys j names = false := by
            intro k hk h j hj
            by_cases hji : j < i
            · exact hpast j hji
            · by_cases hje : j = i
              · rw [hje]; exact hgood
              · have q := law_in (names := names) (j := j - (i + 1)) hi hm (by omega)
                rw [show i + 1 + (j - (i + 1)) = j by omega] at q
                rw [q]
                exact h _ (by omega)
          cases hp : probS (blockS ys (i + 1)) names with
          | some k =>
            have hp2 := hp
            unfold probS at hp2
            obtain ⟨q1, q2, q3⟩ := List.find?_range_eq_some.mp hp2
            have q2' := List.mem_range.mp q2
            refine ⟨by omega, ?_, ?_⟩
            · rw [law_in hi hm q2']
              exact q1
            · exact hpast2 k (by omega) fun j hj => by
                have := q3 j hj
                simpa using this
          | none =>
            have hp2 := hp
            unfold probS at hp2
            have q := List.find?_eq_none.mp hp2
            have hall : ∀ j, j < (blockS ys (i + 1)).length → badAt (blockS ys (i + 1)) names j = false := fun j hj => by
              have := q j (List.mem_range.mpr hj)
              simpa using this
            have hin : ∀ k (hk : k < ys.length), i + 1 ≤ k → k < i + 1 + (blockS ys (i + 1)).length → indB ys[k] = true := by
              intro k hk a b
              have hj2 : k - (i + 1) < (blockS ys (i + 1)).length := by omega
              have e := block_at hj2 (by omega)
              have e3 : ys[k] = (blockS ys (i + 1))[k - (i + 1)] := by
                rw [e]
                congr 1
                omega
              rw [e3]
              exact block_ind _ (List.getElem_mem hj2)
            have hh : headsM ys (i + 1 + (blockS ys (i + 1)).length) = headsM ys i ++ [m] := by
              rw [heads_block (blockS ys (i + 1)).length (by omega) hin, heads_at hi, hm]
              rfl
            refine ih _ _ _ (by omega) (by omega) (.inr fun h => ?_) (hpast2 _ (Nat.le_refl _) hall) (by rw [hh, List.length_append, hlen]; rfl) (fun z => by omega) (fun _ => by rw [hh]; simp)
            cases hz : indB ys[i + 1 + (blockS ys (i + 1)).length] with
            | false => rfl
            | true =>
              exfalso
              have hd := drop_block ys (i + 1)
              have hd2 : ys.drop (i + 1 + (blockS ys (i + 1)).length) = ys[i + 1 + (blockS ys (i + 1)).length] :: ys.drop (i + 1 + (blockS ys (i + 1)).length + 1) := List.drop_eq_getElem_cons h
              rw [hd2] at hd
              have e : blockS ys (i + 1) = (blockS ys (i + 1) ++ ys[i + 1 + (blockS ys (i + 1)).length] :: ys.drop (i + 1 + (blockS ys (i + 1)).length + 1)).takeWhile indB := by
                rw [← hd]
                rfl
              rw [List.takeWhile_append_of_pos block_ind, List.takeWhile_cons, if_pos hz] at e
              have := congrArg List.length e
              rw [List.length_append, List.length_cons] at this
              omega
    · have h1 : fwM ys names (fu + 1) i c b = none := by
        show (if i < ys.length then _ else none) = _
        rw [if_neg hi]
      rw [h1]
      exact fun j hj => hpast j (by omega)
def ansO (n : Nat) (ended : Bool) : Option Nat → Option Nat
  | some k => some (k + 1)
  | none => if ended = true then none else some n
theorem law_from {rows names : List Str} {ended : Bool} (hne : rows ≠ []) {o : Option Nat} (h : FirstL rows names o) : ∀ f i, i + f = rows.length → (∀ k, o = some k → i ≤ k) →
    (o = none → ended = false → i < rows.length) → lawFrom rows names ended f i = ansO rows.length ended o := by
  intro f
  induction f with
  | zero =>
    intro i hi hk hn
    cases o with
    | some k => have := hk k rfl; have := h.1; omega
    | none =>
      cases he : ended with
      | true => rfl
      | false => have := hn rfl he; omega
  | succ f ih =>
    intro i hi hk hn
    have hil : i < rows.length := by omega
    show (if i < rows.length then if (lawB rows i names || (decide (i + 1 = rows.length) && !ended)) = true then some (i + 1) else lawFrom rows names ended f (i + 1) else none) = _
    rw [if_pos hil]
    cases o with
    | some k =>
      have hik := hk k rfl
      obtain ⟨h1, h2, h3⟩ := h
      by_cases he : i = k
      · subst he
        rw [h2, Bool.true_or, if_pos rfl]
        rfl
      · rw [h3 i (by omega), decide_eq_false (by omega), Bool.false_and, Bool.or_false, if_neg (by decide)]
        exact ih (i + 1) (by omega) (fun k2 z => by cases z; omega) (fun z => nomatch z)
    | none =>
      rw [h i hil, Bool.false_or]
      cases he : ended with
      | true =>
        rw [Bool.not_true, Bool.and_false, if_neg (by decide)]
        rw [he] at ih
        exact ih (i + 1) (by omega) (fun k2 z => nomatch z) (fun _ z => nomatch z)
      | false =>
        rw [Bool.not_false, Bool.and_true]
        by_cases hl : i + 1 = rows.length
        · rw [if_pos (decide_eq_true hl), hl]
          rfl
        · rw [if_neg (by simpa using hl)]
          rw [he] at ih
          exact ih (i + 1) (by omega) (fun k2 z => nomatch z) (fun _ _ => by omega)
theorem load_law (t : Str) : loadM t = lawM t := by
  unfold loadM lawM
  by_cases hne : rowsS t = []
  · rw [if_pos hne, if_pos hne]
  · rw [if_neg hne, if_neg hne]
    have h := fw_first (ys := rowsS t) (names := (rowsS t).filterMap modS) ((rowsS t).length + 1) 0 0 (Str.ofString "") (by omega) (Nat.zero_le _) (.inl rfl) (fun j hj => absurd hj (Nat.not_lt_zero _)) rfl (fun _ => rfl) (fun z => absurd rfl z)
    rw [law_from (ended := endS t) hne h (rowsS t).length 0 (by omega) (fun _ _ => Nat.zero_le _) (fun _ _ => List.length_pos_iff.mpr hne)]
    cases fwM (rowsS t) ((rowsS t).filterMap modS) ((rowsS t).length + 1) 0 0 (Str.ofString "") <;> rfl

end K17

-- text K17M2
set_option maxHeartbeats 8000000
namespace K17
open PySem PySem.Spec PyProof.Rows L2 Evl
variable {P : Program} {w : World} {K : PySem.W.Frag} {mg : Str → Option Value} {base : Heap} {d : Ad}
/-! ## a right text comes back -/
theorem glue_end (s : Nat) : ∀ ps : List (List Nat), glue s (ps ++ [[]]) = ps.flatMap (· ++ [s])
  | [] => rfl
  | [p] => by simp [glue]
  | p :: q :: r => by
    have h := glue_end s (q :: r)
    show p ++ s :: glue s (q :: r ++ [[]]) = _
    rw [h, List.flatMap_cons (x := p)]
    simp
theorem end_text {t : Str} (he : endS t = true) : (rowsS t).flatMap (fun y => tl y ++ [10]) = tl t := by
  have h1 := glue_cut 10 (tl t)
  rw [← lines_tl] at h1
  have h2 : (linesS t).getLast? = some (Str.ofString "") := by unfold endS at he; exact of_decide_eq_true he
  have h3 := List.dropLast_concat_getLast (lines_ne t)
  rw [List.getLast?_eq_some_getLast (lines_ne t), Option.some.injEq] at h2
  rw [h2] at h3
  have h4 : rowsS t = (linesS t).dropLast := by unfold rowsS; rw [if_pos he]
  rw [← h4] at h3
  rw [← h3, List.map_append, show [Str.ofString ""].map tl = [[]] from by decide +kernel, glue_end] at h1
  rw [← h1, List.flatMap_map]
theorem load_none {t : Str} (h : loadM t = none) : rowsS t ≠ [] ∧ fwT t = none ∧ endS t = true := by
  unfold loadM at h
  by_cases hne : rowsS t = []
  · rw [if_pos hne] at h; cases h
  · rw [if_neg hne] at h
    refine ⟨hne, ?_⟩
    unfold fwT
    cases hf : fwM (rowsS t) ((rowsS t).filterMap modS) ((rowsS t).length + 1) 0 0 (Str.ofString "") with
    | some k => rw [hf] at h; cases h
    | none =>
      rw [hf] at h
      refine ⟨rfl, ?_⟩
      cases he : endS t with
      | true => rfl
      | false => rw [he] at h; cases h
theorem sum_len (ls : List Str) : (ls.map (fun y => y.length + 1)).sum = (ls.flatMap (fun y => tl y ++ [10])).length := by
  induction ls with
  | nil => rfl
  | cons a r ih =>
    rw [List.map_cons, List.sum_cons, List.flatMap_cons, List.length_append, ih, List.length_append]
    rw [show a.length = (tl a).length from TL.len_tl a]
    rfl
theorem text_back {t : Str} (ht : TextOk t) (h : loadM t = none) {ms : List Mo} (hms : ms.map (fun m => (m.1, m.2.2)) = modsL (rowsS t)) :
    (ms.map (·.1)).Nodup ∧ (∀ m ∈ ms, m.1.length ≤ 8 ∧ RowsOk ((rowsS t).filterMap modS) m.2.2) ∧ rowsOut ms = rowsS t ∧ ((rowsOut ms).map (fun y => y.length + 1)).sum = t.length ∧ ∀ z : Str, tl z = (rowsOut ms).flatMap (fun y => tl y ++ [10]) → z = t := by
  obtain ⟨hne, hfw, hend⟩ := load_none h
  have hpos : 0 < (rowsS t).length := List.length_pos_iff.mpr hne
  obtain ⟨f1, f2, f3, f4, f5, f6⟩ := fw_none _ 0 0 _ hfw (by omega) (by decide)
  rw [List.drop_zero] at f1 f2 f3 f4 f5 f6
  have hmn : ms.map (·.1) = (modsL (rowsS t)).map (·.1) := by
    rw [← hms, List.map_map]
    rfl
  have hmsmem : ∀ m ∈ ms, (m.1, m.2.2) ∈ modsL (rowsS t) := fun m hm => by rw [← hms]; exact List.mem_map.mpr ⟨m, hm, rfl⟩
  have hout : rowsOut ms = rowsS t := by
    have e : rowsOut ms = glueM (ms.map (fun m => (m.1, m.2.2))) := by
      unfold rowsOut glueM
      rw [List.flatMap_map]
    rw [e, hms]
    exact f5.symm
  have htx := end_text hend
  refine ⟨?_, fun m hm => ?_, hout, ?_, fun z hz => ?_⟩
  · rw [hmn]
    refine (List.pairwise_map.mpr (f3.imp ?_))
    intro a b hab e
    have hab2 : a.1.cps.toList < b.1.cps.toList := hab
    rw [e] at hab2
    exact List.lt_irrefl _ hab2
  · obtain ⟨q, q5⟩ := f4 _ (hmsmem m hm)
    obtain ⟨q1, q2⟩ := prob_ok q
    refine ⟨nmB_len q5, q1, fun y hy => ?_, q2⟩
    refine rows_ok ht y ?_
    rw [f5]
    exact List.mem_flatMap.mpr ⟨_, hmsmem m hm, List.mem_cons_of_mem _ hy⟩
  · rw [hout, sum_len, htx]
    exact (TL.len_tl t).symm
  · refine TL.ext_tl ?_
    rw [hout, htx] at hz
    exact hz

end K17

-- text K17Q7
set_option maxHeartbeats 8000000
namespace K17
open PySem PySem.Spec PyProof.Rows L2 Evl
variable {P : Program} {w : World} {K : PySem.W.Frag} {mg : Str → Option Value} {base : Heap} {d : Ad}
/-! ## _law_told -/
structure Tlw (K : PySem.W.Frag) (mg : Str → Option Value) (d : Ad) : Prop where
  x : XisC K d.it
  f : XfC K d.it
  c_InvalidCommand : mg "InvalidCommand" = some (.ref d.ic)
  c_InvalidLibrary : mg "InvalidLibrary" = some (.ref d.il)
  c_InvalidProgram : mg "InvalidProgram" = some (.ref d.ip)
  c_LoaderError : mg "LoaderError" = some (.ref d.le)
  k3 : PySem.W.kitAny K (.ref d.it) [.ref d.ic, .ref d.il, .ref d.ip] = some false
  kle : PySem.W.kitOne K (.ref d.it) (.ref d.le) = some true
  ex : PySem.W.exmOne K (.ref d.it) (.ref d.it) = some true
theorem call_isX2 {X : Cx} {a D : Addr} {oe : Obj} {cls : Value} {dw : Option Addr} {pn : List (Addr × Obj)} (C : XisC X.K D) (hz : Zc cls dw oe) (hf : ∃ vs, oe.data = .fields vs) :
    CallR (X.suite a ((a, oe) :: pn)) (.builtin "isinstance") (fun xs H Q => cls = .ref D ∧ ∃ dd, dw = some dd ∧ rIsX X.K D a dd xs H Q) := by
  intro pins s σ H xs us Q I r h
  obtain ⟨rfl, dd, rfl, h⟩ := h
  exact call_isX C hz hf pins s σ H xs us Q I r h
def spTold (K : PySem.W.Frag) : Sp := fun vs H Q _ => ∃ v : V, vs = [v] ∧ ((∃ t : Str, v = .str t ∧ TextOk t ∧ (loadM t = none → ∀ p H', Ex H H' → H' p = some (.lst [.str (Str.ofString "read"), .str t]) → Q (.ref p) H') ∧ (∀ n, loadM t = some n → ∀ H', Ex H H' → Q (.int (n : Int)) H')) ∨ (OtherV K v H ∧ ∀ H', Ex H H' → Q (.int 0) H'))
theorem o__law_told (T : Tx w K mg d) (E0' : Tex K mg d) (TX : Tlw K mg d) (F : Fd K mg "_law_told" s_L_told []) (o_load_library : Ok P w K mg base (L2.CX P w) 12 "load_library" ["text"] (spLoad K d.it d.lb)) (o_library_text : Ok0 P w K mg base 8 "library_text" ["library"] (spLText d.lb)) :
    Ok0 P w K mg base 13 "_law_told" ["_law_thing"] (spTold K) := by
  refine mkOk 12 F sc_L_told (fun _ _ _ _ _ _ us hl => match us, hl with | [_], _ => rfl) (fun vs H Q E h => by obtain ⟨_, rfl, _⟩ := h; rfl) fun f cdv A outer s H vs Q E hr h => ?_
  obtain ⟨v, rfl, h⟩ := h
  refine ⟨_, PSs.nox (pss_cons (ps_set (i := 1) sc_L_told.nd rfl (.inl rfl) pe_str)
    (pss_cons (ps_try_as (i := 2) rfl rfl sc_L_told.nd rfl rfl ⟨by rfl, by decide, .inl E0'.c_it⟩ takes0
      (fun W pn xe tk hp => (pss_one (ps_set (i := 1) sc_L_told.nd rfl (.inl rfl) (pe_lst (pa_cons pe_str (pa_cons (pe_c o_library_text (hr.mono (by decide)) pass0 (pa_cons (pe_cS o_load_library (hr.mono (by decide)) tk (pa_cons (pv 0) pa_nil)) pa_nil)) pa_nil))))))
      (fun a oe cls d1 pn hz hf => (pss_cons (ps_set (i := 3) sc_L_told.nd rfl (.inl rfl) (pe_or (pe_callB (call_isX2 TX.x hz hf) (by rfl) T.b_isinstance (by decide +kernel) (pa_cons (pv 2) (pa_cons (pe_tup (pa_cons (pe_gr TX.c_InvalidCommand) (pa_cons (pe_gr TX.c_InvalidLibrary) (pa_cons (pe_gr TX.c_InvalidProgram) pa_nil)))) pa_nil))) (pe_one (pe_not (pe_callB (call_isX2 TX.x hz hf) (by rfl) T.b_isinstance (by decide +kernel) (pa_cons (pv 2) (pa_cons (pe_gr TX.c_LoaderError) pa_nil)))))))
    (pss_one (ps_set (i := 1) sc_L_told.nd rfl (.inl rfl) (pe_ifExp (pt_val (pv 3)) pe_str (pe_xf TX.f E0'.nline hz hf (pv 2))))))))
    (pss_one (ps_ret (pv 1))))), ?_⟩
  try simp only [tCallS, WE, wAs, tLst, tTup, n_L_told, L2.start, cxK, cxW, cxK', cxW', is_ss, is_si, is_ii, is_ib, is_is, is_bs, is_ns, is_ni, is_nt, Bool.not_false, Bool.not_true, tSeq, tIfS, tRet, tRetN, tNext, tNever, tAsg, gName, tVar, tC, tOp, tUn, tCons, tNil, tCB, tCall, tTest, tB, tAnd, tOr, tNot, tAndV, tOrV, tNotV, tIf, tChain, rI0, rI, rU, rEq, rNe, List.map_cons, List.map_nil, List.length_cons, List.length_nil, List.replicate, List.cons_append, List.nil_append, List.append_nil, List.getElem?_cons_zero, List.getElem?_cons_succ, List.set_cons_zero, List.set_cons_succ, Option.some.injEq, exists_eq_left', exists_eq_left, exists_eq_right, V.str.injEq, V.int.injEq, V.bl.injEq, V.ref.injEq, V.ty.injEq, List.cons.injEq, and_true, true_and, exists_and_left, Nat.zero_add, Nat.add_sub_cancel, Nat.sub_self, Nat.succ_sub_succ_eq_sub, Nat.reduceSub, Nat.reduceAdd, Nat.sub_zero, tYes, tSl, tPart, tNoPart, if_true, Bool.false_eq_true, if_false, reduceCtorEq, false_and, exists_false, or_false, false_or, scal, tLc_eq, tFor_eq, iStr, iList, iTup, RZ.iZipA, decide_false, decide_true, tM1, tM0, tDrop, tAug, ipI]
  have hR : ∀ (n : Int), (∀ H', Ex H H' → Q (.int n) H') → RaisesIt d.it n H (WE
      (wAs K (Value.ref d.it) 2
        (fun a cls d1 =>
          tSeq
            (tAsg
              (tOrV
                (tCB (fun xs H Q => cls = Value.ref d.it ∧ ∃ dd, d1 = some dd ∧ rIsX K d.it a dd xs H Q)
                  (tCons (tVar 2)
                    (tCons (tTup (tCons (tC (V.ref d.ic)) (tCons (tC (V.ref d.il)) (tCons (tC (V.ref d.ip)) tNil))))
                      tNil)))
                (tNotV
                  (tCB (fun xs H Q => cls = Value.ref d.it ∧ ∃ dd, d1 = some dd ∧ rIsX K d.it a dd xs H Q)
                    (tCons (tVar 2) (tCons (tC (V.ref d.le)) tNil)))))
              (gName 3))
            (tAsg
              (tIf (tB (tVar 3)) (tC (V.str (Str.ofString "other"))) (tXf a cls d1 d.it (Str.ofString "line") (tVar 2)))
              (gName 1)))
        (fun x x_1 x_2 x_3 => False) { nx := tRet (tVar 1) { nx := fun x H' => Q V.non H', rt := Q }, rt := Q })
      [some v, some (V.str (Str.ofString "other")), none, none]) := by
    intro n hq dd H1 e1 hdd
    refine ⟨true, TX.ex, fun _ a ha => ?_, fun z => nomatch z⟩
    try simp only [tTup, tXf, is_ss, is_si, is_ii, is_ib, is_is, is_bs, is_ns, is_ni, is_nt, Bool.not_false, Bool.not_true, tSeq, tIfS, tRet, tRetN, tNext, tNever, tAsg, gName, tVar, tC, tOp, tUn, tCons, tNil, tCB, tCall, tTest, tB, tAnd, tOr, tNot, tAndV, tOrV, tNotV, tIf, tChain, rI0, rI, rU, rEq, rNe, List.map_cons, List.map_nil, List.length_cons, List.length_nil, List.replicate, List.cons_append, List.nil_append, List.append_nil, List.getElem?_cons_zero, List.getElem?_cons_succ, List.set_cons_zero, List.set_cons_succ, Option.some.injEq, exists_eq_left', exists_eq_left, exists_eq_right, V.str.injEq, V.int.injEq, V.bl.injEq, V.ref.injEq, V.ty.injEq, List.cons.injEq, and_true, true_and, exists_and_left, Nat.zero_add, Nat.add_sub_cancel, Nat.sub_self, Nat.succ_sub_succ_eq_sub, Nat.reduceSub, Nat.reduceAdd, Nat.sub_zero, tYes, tSl, tPart, tNoPart, if_true, Bool.false_eq_true, if_false, reduceCtorEq, false_and, exists_false, or_false, false_or, scal, tLc_eq, tFor_eq, iStr, iList, iTup, RZ.iZipA, decide_false, decide_true, tM1, tM0, tDrop, tAug, ipI]
    refine ⟨Nat.le_of_ble_eq_true rfl, fun tp htp => ?_⟩
    have e2 : Ex H1 (upd H1 tp (.tup [V.ref d.ic, V.ref d.il, V.ref d.ip])) := Ex.new htp
    have h2 := e2 dd _ hdd
    refine ⟨_, h2, .inr ⟨tp, [d.ic, d.il, d.ip], false, rfl, upd_same, TX.k3, false, rfl, ?_⟩⟩
    try simp only [is_ss, is_si, is_ii, is_ib, is_is, is_bs, is_ns, is_ni, is_nt, Bool.not_false, Bool.not_true, tSeq, tIfS, tRet, tRetN, tNext, tNever, tAsg, gName, tVar, tC, tOp, tUn, tCons, tNil, tCB, tCall, tTest, tB, tAnd, tOr, tNot, tAndV, tOrV, tNotV, tIf, tChain, rI0, rI, rU, rEq, rNe, List.map_cons, List.map_nil, List.length_cons, List.length_nil, List.replicate, List.cons_append, List.nil_append, List.append_nil, List.getElem?_cons_zero, List.getElem?_cons_succ, List.set_cons_zero, List.set_cons_succ, Option.some.injEq, exists_eq_left', exists_eq_left, exists_eq_right, V.str.injEq, V.int.injEq, V.bl.injEq, V.ref.injEq, V.ty.injEq, List.cons.injEq, and_true, true_and, exists_and_left, Nat.zero_add, Nat.add_sub_cancel, Nat.sub_self, Nat.succ_sub_succ_eq_sub, Nat.reduceSub, Nat.reduceAdd, Nat.sub_zero, tYes, tSl, tPart, tNoPart, if_true, Bool.false_eq_true, if_false, reduceCtorEq, false_and, exists_false, or_false, false_or, scal, tLc_eq, tFor_eq, iStr, iList, iTup, RZ.iZipA, decide_false, decide_true, tM1, tM0, tDrop, tAug, ipI]
    refine ⟨_, h2, .inl ⟨d.le, true, rfl, TX.kle, true, rfl, ?_⟩⟩
    try simp only [is_ss, is_si, is_ii, is_ib, is_is, is_bs, is_ns, is_ni, is_nt, Bool.not_false, Bool.not_true, tSeq, tIfS, tRet, tRetN, tNext, tNever, tAsg, gName, tVar, tC, tOp, tUn, tCons, tNil, tCB, tCall, tTest, tB, tAnd, tOr, tNot, tAndV, tOrV, tNotV, tIf, tChain, rI0, rI, rU, rEq, rNe, List.map_cons, List.map_nil, List.length_cons, List.length_nil, List.replicate, List.cons_append, List.nil_append, List.append_nil, List.getElem?_cons_zero, List.getElem?_cons_succ, List.set_cons_zero, List.set_cons_succ, Option.some.injEq, exists_eq_left', exists_eq_left, exists_eq_right, V.str.injEq, V.int.injEq, V.bl.injEq, V.ref.injEq, V.ty.injEq, List.cons.injEq, and_true, true_and, exists_and_left, Nat.zero_add, Nat.add_sub_cancel, Nat.sub_self, Nat.succ_sub_succ_eq_sub, Nat.reduceSub, Nat.reduceAdd, Nat.sub_zero, tYes, tSl, tPart, tNoPart, if_true, Bool.false_eq_true, if_false, reduceCtorEq, false_and, exists_false, or_false, false_or, scal, tLc_eq, tFor_eq, iStr, iList, iTup, RZ.iZipA, decide_false, decide_true, tM1, tM0, tDrop, tAug, ipI]
    exact ⟨_, h2, .int n, rfl, hq _ (e1.trans e2)⟩
  refine ⟨v, rfl, ?_⟩
  rcases h with ⟨t, rfl, ht, hok, hbad⟩ | ⟨ho, hq⟩
  · refine .inl ⟨t, rfl, ht, fun hn a ms H1 e1 lib hms => ?_, fun n hn => hR _ (hbad n hn)⟩
    obtain ⟨t1, t2, t3, t4, t5⟩ := text_back ht hn hms
    have hrl := rows_len ht
    have hlen := ht.len
    refine ⟨a, ms, _, rfl, lib, t1, t2, by rw [t3]; omega, fun y hy => (rows_ok ht y (by rw [← t3]; exact hy)).len, by rw [t4]; omega, fun H2 z e2 hz => ?_⟩
    obtain rfl := t5 z hz
    exact ⟨Nat.le_of_ble_eq_true rfl, fun p hp => hok hn p _ ((e1.trans e2).trans (Ex.new hp)) upd_same⟩
  · exact .inr ⟨ho, hR _ hq⟩

end K17

-- text K17G1
set_option maxHeartbeats 8000000
namespace K17
open PySem PySem.Spec PyProof.Rows L2 Evl
variable {P : Program} {w : World} {K : PySem.W.Frag} {mg : Str → Option Value} {base : Heap} {d : Ad}
/-! ## own rules where a token is out (1 ≤ toks) -/
section
variable {α : Type} {M : Model} {A : Around} {E : Value → Shared → Prop} {s : Shared} {t : Sem α} {Q Q' : α → Shared → Prop}
theorem tk (h0 : 1 ≤ s.toks) (h : wpAny M A t Q E s) (hQ : ∀ a s1, 1 ≤ s1.toks → Q a s1 → Q' a s1) : wpAny M A t Q' E s :=
  wpAny_mono (PySem.wpAny_toks h) (fun a s1 q => hQ a s1 (Nat.le_trans h0 q.1) q.2) fun _ _ z => z.2
theorem tkF (h0 : 1 ≤ s.toks) (h : wpAny M A t Q (fun _ _ => False) s) (hQ : ∀ a s1, 1 ≤ s1.toks → Q a s1 → Q' a s1) : wpAny M A t Q' E s :=
  wpAny_mono (PySem.wpAny_toks h) (fun a s1 q => hQ a s1 (Nat.le_trans h0 q.1) q.2) fun _ _ z => False.elim z.2
end
def PTT (X : Cx) (e : Expr) (t : TT) : Prop := ∀ (pins : List (Addr × Obj)) (s : Shared) (σ : L2.St) (H : Hp) (Q : Bool → Hp → Prop), 1 ≤ s.toks → Inv X pins σ H s → t σ H Q → wpAny (model X.prog X.w) X.A (isTrue e X.env (eval e X.env)) (TP X pins σ Q) X.xe s
section
variable {X : Cx} {e f o : Expr} {es : List Expr} {te tf to : TE} {ta : TA} {p pos : Pos} {a b : List Stmt} {tc : TT} {t u : TS}
theorem PTT.of (h : PT X e tc) : PTT X e tc := fun pins s σ H Q _ I q => h.run pins s σ H Q I q
/-- a test that is a value -/
theorem ptt_val (h : L2.PET X e te) (hp : ∀ whole, isTrue e X.env whole = (do let v ← whole; standAt e.pos; holding [v] (truthy v)) := by intro _; rfl) : PTT X e (tB te) := by
  intro pins s σ H Q h0 I q
  refine isTrue_plain (thn (h pins s σ H _ h0 I q) fun v s1 ⟨x, H1, I1, r1, k, ek, q1⟩ => ?_) (hp _)
  subst ek
  cases r1
  exact wpAny_truthy_bool ⟨H1, I1, q1⟩
theorem ptt_cmp {op : CmpOp} {r : R2} (ho : OpR X (compareOp op) r) (ha : L2.PET X e te) (hb : PE X f tf) (hm : behindInMarks op f = false) : PTT X (.Compare e [op] [f] pos) (tTest (tOp r te tf)) := by
  intro pins s σ H Q h0 I q
  refine wpAny_isTrue_Compare1 (thn (ha pins s σ H _ h0 I q) fun v s1 ⟨x, H1, I1, r1, q1⟩ => thn (hb.run pins s1 σ H1 _ I1 q1) fun u s2 ⟨y, H2, I2, r2, q2⟩ =>
    thn (ho pins s2 σ H2 x y v u _ I2 r1 r2 q2) fun c s3 ⟨z, H3, I3, r3, k, e3, q3⟩ => ?_) hm
  subst e3
  cases r3
  exact wpAny_truthy_bool ⟨H3, I3, q3⟩
theorem pst_ifT (hc : PTT X e tc) (ha : PSsT X a t) (hb : PSsT X b u) : PST X (.If e a b pos) (tIfS tc t u) := by
  intro pins s σ H D h0 I q
  refine wpAny_If (tk h0 (hc pins s σ H _ h0 I q) fun d s1 h1 ⟨H1, I1, q1⟩ => ?_)
  cases d with
  | true => exact ha pins s1 σ H1 D h1 I1 q1
  | false => exact hb pins s1 σ H1 D h1 I1 q1
theorem pat_one (h : L2.PET X e te) (hs : starEach [e] X.env = (false, eval e X.env) :: starEach [] X.env := by rfl) : PAT X [e] (tCons te tNil) := pat_cons h pat_nil hs
theorem pet_callB {x : Str} {id : String} {r : List V → Hp → VK → Prop} (hc : CallR X (.builtin id) r) (hg : Gl X x) (hm : X.mg x = none) (hv : bootBuiltins x = some (.builtin id)) (ha : PAT X (e :: es) ta) (hn : x ≠ "__name__" := by decide) (hdb : (x == ("__debug__" : Str)) = false := by decide)
    (he : starEach (e :: es) X.env = (false, eval e X.env) :: starEach es X.env := by rfl) (hpl : (backTo pos (starEach es X.env)).any (·.1) = false := by rfl) : L2.PET X (.Call (.Name x p) (e :: es) [] pos) (tCB r ta) := by
  intro pins s σ H Q h0 I h
  refine wpAny_Call_Name_kw (ld_blt I hg hm hv ?_ hn hdb)
  exact PyProof.Rows.callWith_builtin1 (thn (ha pos pins s σ H _ h0 I h) fun us s1 ⟨vs, H1, I1, r1, q1⟩ => hc pins s1 σ H1 vs us Q I1 r1 q1) he hpl
end

section
variable {X : Cx} {a e o : Expr} {te to : TE} {tA : TT} {pos : Pos}
theorem ptt_not (ha : PTT X a tA) : PTT X (.UnaryOp .Not a pos) (tNot tA) := fun pins s σ H Q h0 I h => isTrue_not (ha pins s σ H (fun c H1 => Q (!c) H1) h0 I h)
theorem pet_m1 {id : String} {name : Str} {apos : Pos} {r : V → List V → Hp → VK → Prop} (slot : Slot "str" name id) (ty : typeOf (.builtin id) = pure (.type "method_descriptor")) (rule : MtR X id r) (ho : L2.PET X o to) (he : PE X e te)
    (hs : starEach [e] X.env = [(false, eval e X.env)] := by rfl) (hbase : attributeBase o name X.env (eval o X.env) = eval o X.env := by rfl) (hline : (apos.endLine == pos.line) = true := by rfl) : L2.PET X (.Call (.Attribute o name apos) [e] [] pos) (tM1 r to te) := by
  intro pins s σ H Q h0 I h
  refine PySem.Call_method1 hbase hs hline (thn (ho pins s σ H _ h0 I h) fun v s1 ⟨x, H1, I1, r1, ⟨z, ez⟩, q1⟩ => ?_)
  subst ez
  obtain ⟨t, et⟩ := _root_.id r1
  subst et
  refine ⟨"str", _, F.plainAttrs_str, slot, ty, typeIs_str _ _ _, (fun _ e => nomatch e), Calls.callWith_builtin rfl (Calls.evalArgs_plain (Calls.spliced_cons (thn (he.run pins s1 σ H1 _ I1 q1) fun u s2 ⟨y, H2, I2, r2, q2⟩ => ?_)))⟩
  exact Calls.spliced_nil (rule pins s2 σ H2 _ [y] _ [u] Q I2 r1 (.cons r2 .nil) q2)
/-- a list comprehension of one walk, a token out; the element may want one, too -/
theorem pet_lc {elt tg iter : Expr} {ifs : List Expr} {scope : Scope} {own : List (Str × Nat)} {wi : TI} {g : TG} {tt : TT} (hc : X.calm = true) (hN : X.N.Nodup) (hi : PIT X tg iter wi) (ok : BlkOk X.N X.env.scope scope own)
    (hg : ∀ (s : Shared) (H : Hp) (C : Addr) (cl : List (Str × Addr)) (fp : List Addr), PG (X.blk s H scope (compEnvC scope cl C X.env) fp) tg g)
    (ht : ∀ (s : Shared) (H : Hp) (C : Addr) (cl : List (Str × Addr)) (fp : List Addr), PTs (X.blk s H scope (compEnvC scope cl C X.env) fp) ifs tt)
    (he : ∀ (s : Shared) (H : Hp) (C : Addr) (cl : List (Str × Addr)) (fp : List Addr), L2.PET (X.blk s H scope (compEnvC scope cl C X.env) fp) elt te) (hs : ∀ x, foldedSetIterable iter X.env x = pure x := by intro _; rfl) :
    L2.PET X (.ListComp elt [⟨tg, iter, ifs, 0⟩] scope pos) (tLc wi g tt te (own.map (·.2))) := by
  intro pins s σ H Q h0 I h
  rw [eval_ListComp]
  have clo : ∀ y ∈ scope.names, y.2 = .free → ∃ c, X.env.cells.lookup y.1 = some c := fun y hy e => I.ok.has _ (ok.free y hy e)
  refine wpAny_comprehension_free rfl hs (closure_ok clo) ok.kind (fun y hy e => by rw [ok.uniq y hy, e]) (tk h0 (hi pins s σ H _ h0 I h) fun xv s1 h1 hx => tk h1 hx fun itv s2 h2 hx2 => ?_)
  obtain ⟨it, fp, tn, J, H2, rfl, I2, T, st2, f2, q⟩ := hx2
  refine wpAny_newObj_type (newEnv_comp ?_) (Nat.zero_le _)
  obtain ⟨D, hD⟩ : ∃ D, s2.heap.objs.size = D := ⟨_, rfl⟩
  have fresh : H2 D = none := I2.hok.fresh (Nat.le_of_eq hD)
  obtain ⟨W, ⟨m0, w0⟩, turn⟩ := q D fresh
  obtain ⟨H3, hH3⟩ : ∃ H3, upd H2 D (.lst []) = H3 := ⟨_, rfl⟩
  rw [hH3] at w0
  obtain ⟨s3, hs3⟩ : ∃ s3 : Shared, { s2 with heap := s2.heap.push { cls := .type "list", data := .seq ([] : List Value).toArray } } = s3 := ⟨_, rfl⟩
  have grow : ∀ b o, s2.heap.get? b = some o → s3.heap.get? b = some o := fun b o e => by
    rw [← hs3]
    exact Heap.get?_push_of_some _ e
  have h3 : 1 ≤ s3.toks := by rw [← hs3]; exact h2
  have I3 : Inv X pins σ H3 s3 := by
    rw [← hH3, ← hs3]
    refine I2.laid (t' := s2.toks) (fun b o e => Heap.get?_push_of_some _ e) (Nat.le_of_eq hD) ⟨Nat.zero_le _, [], 0, .nil, ?_⟩
    rw [← hD]
    exact Heap.get?_push_size _ rfl
  have f3 : ∀ b ∈ fp, FpOk X pins H3 b ∧ b < s3.heap.objs.size := fun b hb => by
    obtain ⟨o, eo, _⟩ := T.obj _ _ st2 b hb
    obtain ⟨n1, n2⟩ := f2 b hb
    refine ⟨⟨?_, n2⟩, Heap.lt_size (grow _ _ eo)⟩
    rw [← hH3, upd_ne (by rw [← hD]; exact Nat.ne_of_lt (Heap.lt_size eo))]
    exact n1
  have I4 := block_start I3 ok hN f3
  rw [hD, hs3]
  show codeAny _ _ (.compStart (.ListComp elt [⟨tg, iter, ifs, 0⟩] scope pos) 0 (.ref it) (.ref D) (compEnvC scope (cellsFrom (s3.heap.objs.size + 1) scope.names (cloFrom X.env.cells scope.names [])) s3.heap.objs.size X.env)) _ { s3 with heap := pushCells (s3.heap.push { cls := .type "dict", data := .dict #[] }) scope.names }
  have pg := hg s3 H3 s3.heap.objs.size (cellsFrom (s3.heap.objs.size + 1) scope.names (cloFrom X.env.cells scope.names [])) fp
  have pt := ht s3 H3 s3.heap.objs.size (cellsFrom (s3.heap.objs.size + 1) scope.names (cloFrom X.env.cells scope.names [])) fp
  have pe := he s3 H3 s3.heap.objs.size (cellsFrom (s3.heap.objs.size + 1) scope.names (cloFrom X.env.cells scope.names [])) fp
  obtain ⟨ce, hce, cL⟩ : ∃ ce, compEnvC scope (cellsFrom (s3.heap.objs.size + 1) scope.names (cloFrom X.env.cells scope.names [])) s3.heap.objs.size X.env = ce ∧ ce.locals = s3.heap.objs.size := ⟨_, rfl, rfl⟩
  rw [hce] at I4 pg pt pe ⊢
  obtain ⟨s4, hs4⟩ : ∃ s4 : Shared, { s3 with heap := pushCells (s3.heap.push { cls := .type "dict", data := .dict #[] }) scope.names } = s4 := ⟨_, rfl⟩
  have st4 : tn 0 s4.heap := T.keep _ _ _ st2 fun b _ o e => by rw [← hs4]; exact pushCells_keeps _ _ _ _ (Heap.get?_push_of_some _ (grow b o e))
  have h4 : 1 ≤ s4.toks := by rw [← hs4]; exact h3
  rw [hs4] at I4 ⊢
  -- the walk's own objects stay apart
  have apart : ∀ {σ' : L2.St} {H' : Hp} {s' : Shared}, Inv (X.blk s3 H3 scope ce fp) [] σ' H' s' → (∀ b ∈ fp, H' b = none) → ∀ b ∈ fp, FpOk (X.blk s3 H3 scope ce fp) [] H' b := fun I' hn b hb =>
    ⟨hn b hb, (I'.ok.exf b hb).1, I'.ok.exfs b hb, .inl hb, fun x c e => (I'.ok.exf b hb).2 x c e, fun p hp => by cases hp⟩
  refine codeAny_compStart_list ?_ (T.self X.A 0 _ _ _ st4 ?_)
  all_goals
    refine compLoop_any (fun n s' => 1 ≤ s'.toks ∧ ∃ i H', Inv (X.blk s3 H3 scope ce fp) [] (wipe σ (own.map (·.2))) H' s' ∧ tn i s'.heap ∧ (∀ b ∈ fp, H' b = none) ∧ W i n H') ?_ m0 ⟨h4, 0, H3, I4, st4, fun b hb => (f3 b hb).1.1, w0⟩
    rintro n s5 ⟨t5, i, H5, I5, st5, n5, w5⟩
    rcases turn i n H5 w5 with ⟨stop, qq⟩ | ⟨go, Nx, hNx, step⟩
    · refine tkF t5 (T.done (X.blk s3 H3 scope ce fp) rfl rfl rfl hc i [] s5 _ H5 (fun _ _ => False) I5 (apart I5 n5) st5 stop) fun r s6 t6 ⟨hr, I6⟩ => ?_
      subst hr
      have I7 : Inv X pins σ H5 s6 := I3.call' (ch := fp) I6.os I6.base I6.hok I6.bare fun b hb => ⟨(f3 b hb).1.2.2.2.1, (f3 b hb).1.2.1, (f3 b hb).1.2.2.2.2.1, (f3 b hb).1.2.2.2.2.2⟩
      have nC : H5 s3.heap.objs.size = none := by rw [← cL]; exact I6.free
      obtain ⟨m, hn, _⟩ := I6.loc
      have hn2 : s6.heap.Ns s3.heap.objs.size m := by rw [← cL]; exact hn
      obtain ⟨f0, f1, f4, f5, f6, f7⟩ := I3.fpOk (Nat.le_refl _) nC
      exact ⟨m, hn2, fun h'' sb => ⟨.ref D, H5, I7.turned (t' := s6.toks) (fun b o hb e => (sb.2 b hb).trans e) f0 f1 f5 f6 f7, rfl, qq⟩⟩
    · refine tkF t5 (T.item (X.blk s3 H3 scope ce fp) rfl rfl rfl hc i [] s5 _ H5 (fun _ _ => False) I5 (apart I5 n5) st5 go) fun r s6 t6 ⟨u, hr, h6⟩ => ?_
      subst hr
      refine tkF t6 h6 fun _ s7 t7 ⟨x, H7, I7, r7, y7, st7, n7⟩ => ?_
      have I7' := I7.pinned (apart I7 n7) (T.obj _ _ st7)
      refine tkF t7 (pg.run _ s7 _ H7 x u _ I7' r7 (step x H7 y7)) fun _ s8 t8 ⟨σ8, H8, I8, hw8, q8⟩ => ?_
      refine tkF t8 (pt.run _ s8 σ8 H8 _ I8 q8) fun b s9 t9 ⟨H9, I9, q9⟩ => ?_
      have fin : ∀ {s' : Shared} {H' : Hp}, 1 ≤ s'.toks → Inv (X.blk s3 H3 scope ce fp) ([] ++ pinsAt fp s7.heap) σ8 H' s' → Nx H' → ∃ m, m < n ∧ 1 ≤ s'.toks ∧ ∃ i H', Inv (X.blk s3 H3 scope ce fp) [] (wipe σ (own.map (·.2))) H' s' ∧ tn i s'.heap ∧ (∀ b ∈ fp, H' b = none) ∧ W i m H' := fun {s' H'} t' I' nx => by
        obtain ⟨m', hm, w'⟩ := hNx H' nx
        have stay : ∀ b ∈ fp, ∀ o, s7.heap.get? b = some o → s'.heap.get? b = some o ∧ H' b = none := fun b hb o e =>
          let z := I'.pin (b, o) (List.mem_append_right _ (List.mem_append_right _ (mem_pinsAt hb e)))
          ⟨z.1, z.2.1⟩
        refine ⟨m', hm, t', i + 1, H', (I'.unpinned (pins := [])).weak (by rw [← hw8, wipe_length]) (fun j v e => ?_), T.keep _ _ _ st7 fun b hb o e => (stay b hb o e).1, fun b hb => ?_, w'⟩
        · rw [← hw8] at e
          exact (wipe_some e).1
        · obtain ⟨o, e, _⟩ := T.obj _ _ st7 b hb
          exact (stay b hb o e).2
      cases b with
      | false =>
        rw [if_neg (by decide)] at q9 ⊢
        exact fin t9 I9 q9
      | true =>
        rw [if_pos rfl] at q9 ⊢
        refine tkF t9 (pe _ s9 σ8 H9 _ t9 I9 q9) fun z s10 t10 ⟨yv, H10, I10, r10, acc, hD10, hz10, nx⟩ => ?_
        exact tk t10 (app_ok (X := X.blk s3 H3 scope ce fp) (Q := fun _ s' => Inv (X.blk s3 H3 scope ce fp) ([] ++ pinsAt fp s7.heap) σ8 (upd H10 D (.lst (acc ++ [yv]))) s') I10 hD10 hz10 r10 fun s11 I11 => I11) fun _ s11 t11 I11 => fin t11 I11 nx
end

end K17

-- text K17G2
set_option maxHeartbeats 8000000
namespace K17
open PySem PySem.Spec PyProof.Rows L2 Evl
variable {P : Program} {w : World} {K : PySem.W.Frag} {mg : Str → Option Value} {base : Heap} {d : Ad}
/-! ## defs that run where no guard stands, with n tokens out -/
/-- statements that run where n tokens are out -/
def PSsN (n : Nat) (X : Cx) (b : List Stmt) (t : TS) : Prop := ∀ (pins : List (Addr × Obj)) (s : Shared) (σ : L2.St) (H : Hp) (D : Ends), n ≤ s.toks → Inv X pins σ H s → t D σ H → wpAny (model X.prog X.w) X.A (execs b X.env) (SP X pins D) X.xe s
structure FnG (P : Program) (w : World) (K : PySem.W.Frag) (mg : Str → Option Value) (base : Heap) (k n : Nat) (f : Addr) (fd : FuncData) (ps : List Str) (sp : Sp) : Prop where
  size : ∀ vs H Q, sp vs H Q E0 → vs.length = ps.length
  go : ∀ {A : Around} {outer : List Env} {s : Shared} {H : Hp} {args : Args} {us : List Value} {vs : List V} {Q : VK}, Room k A → A.guards = some [] → n ≤ s.toks → Env0 P w K mg base A outer s H → BindsTo s fd args (ps.zip us) → Vals vs us → sp vs H Q E0 →
    codeAny (model P w) A (.call (.ref f) args) (CR CX0 outer P w H s Q E0) s
def OkG (P : Program) (w : World) (K : PySem.W.Frag) (mg : Str → Option Value) (base : Heap) (k n : Nat) (x : Str) (ps : List Str) (sp : Sp) : Prop :=
  ∃ (f : Addr) (fd : FuncData), mg x = some (.ref f) ∧ PySem.W.keepIn K (.ref f) = true ∧ Binds K fd ps [] ∧ FnG P w K mg base k n f fd ps sp
section
variable {X : Cx} {k n : Nat} {x : Str} {ps : List Str} {sp : Sp} {e : Expr} {es : List Expr} {t : TA} {p pos : Pos}
/-- a call of such a def where a token is out -/
theorem pet_cG (F : OkG X.prog X.w X.K X.mg X.base k 1 x ps sp) (hr : Room k X.A) (hgd : X.A.guards = some []) (ha : PA X (e :: es) t)
    (hg : Gl X x := by rfl) (hdb : (x == ("__debug__" : Str)) = false := by decide) (he : starEach (e :: es) X.env = (false, eval e X.env) :: starEach es X.env := by rfl) (hpl : (backTo pos (starEach es X.env)).any (·.1) = false := by rfl) :
    L2.PET X (.Call (.Name x p) (e :: es) [] pos) (tCall sp [] E0 t) := by
  obtain ⟨f, fd, hm, hk, hb, F⟩ := F
  intro pins s σ H Q h0 I h
  refine wpAny_Call_Name_kw (ld_glob I hg hm (PySem.W.callWith_K (h₀ := X.base) I.ok.mod.kin hk (tk h0 (ha.run pos pins s σ H _ I h) fun us s1 h1 ⟨vs, H1, I1, r, q⟩ => ⟨I1.kIn, ?_⟩) he hpl) hdb)
  have q : sp (vs ++ []) H1 Q E0 := q
  rw [List.append_nil] at q
  have hl : us.length = ps.length := by rw [← r.length]; exact F.size _ _ _ q
  have hb2 := hb s1 us I1.kIn (by rw [List.append_nil]; exact hl)
  rw [List.append_nil] at hb2
  refine wpAny_call (codeAny_mono (F.go hr hgd h1 I1.env0 hb2 r q) fun r s' hq => ?_)
  match r, hq with
  | .ok (.ret u), hq => exact I1.after hq
end
section
variable {P : Program} {w : World} {K : PySem.W.Frag} {mg : Str → Option Value} {base : Heap} {x : Str} {st : Stmt} {N ps : List Str} {sp : Sp} {n : Nat}
/-- the rule for such a def, by its body -/
theorem fnG (k : Nat) {f : Addr} {fd : FuncData} (F : FunD K x x (defArgs st) (defBody st) (defScope st) [] [] f fd) (S : FnScope N ps (defScope st)) (len : ∀ vs H Q, sp vs H Q E0 → vs.length = ps.length)
    (body : ∀ (f : Addr) (cdv : Value) (A : Around) (outer : List Env) (s : Shared) (H : Hp) (vs : List V) (Q : VK), Room k (A.deeper (envOfC x (defScope st) s.heap.objs.size f cdv)) → A.guards = some [] → sp vs H Q E0 →
      ∃ t : TS, PSsN n (cxOf CX0 P w K mg base N x (defScope st) f cdv A outer s H E0) (defBody st) t ∧ t { nx := fun _ H' => Q .non H', rt := Q } (L2.start N vs) H) : FnG P w K mg base (k + 1) n f fd ps sp := by
  obtain ⟨oc, od, dV, kV, doc, pm, an, cdv, ct, osl, rfl, lk, hcd, _, _⟩ := F.ex
  refine ⟨len, fun {A outer s H args us vs Q} hr hg hn e0 hb r hsp => ?_⟩
  have hl := len _ _ _ hsp
  have inK : K.In s.heap := e0.mod.kin.keeps fun b o e => (e0.bs b o e).1
  have free : s.heap.NoLimit := e0.mod.nolimit.keeps fun b o e => (e0.bs b o e).1
  refine codeAny_call_function hr.depth (inK _ _ lk) rfl S.co S.gen rfl (PySem.W.codeRec_of inK hcd) (hb _ _ _ _ ?_)
  have kinds : ∀ y ∈ ps.zip us, (defScope st).names.lookup y.1 = some .local ∨ ((defScope st).names.lookup y.1 = some .cell ∧ ((cellsFrom (s.heap.objs.size + 1) (defScope st).names []).lookup y.1).isSome = true) := fun y hy =>
    (S.par y.1 (List.of_mem_zip (a := y.1) (b := y.2) hy).1).imp _root_.id fun q => ⟨q, PySem.W.cellsFrom_some _ _ _ (.inl q)⟩
  refine wpAny_mono (PySem.wpAny_toks (wpAny_newFunctionEnv_cells (Q := fun env s1 => env = newEnv (defScope st) s.heap.objs.size _ (cellsFrom (s.heap.objs.size + 1) (defScope st).names []) _ _ _ none _ ∧ InCallC s env.locals (bindL env.kindOf (ps.zip us) fun _ => none) env.cells (bindC env.kindOf (ps.zip us) fun _ => none) s1) S.kind kinds fun env he s1 xx => ⟨he, xx⟩)) (fun env s1 z => ?_) fun _ _ z => z.2
  obtain ⟨tks, rfl, xx⟩ := z
  refine ⟨free.keeps xx.toInCall.keep, codeAny_func ?_⟩
  obtain ⟨t, ht, hq⟩ := body f cdv A outer s H vs Q (hr.deeper _) hg hsp
  have I : Inv (cxOf CX0 P w K mg base N x (defScope st) f cdv A outer s H E0) [] (L2.start N vs) H s1 := inv_start S hr.hd e0 hl r xx
  refine wpAny_mono (ht [] s1 (L2.start N vs) H _ (Nat.le_trans hn tks) I hq) (fun fl s' hs => ?_) fun e s' hs => hs
  match fl, hs with
  | .ret u, ⟨v, σ', H', J, rv, q⟩ => exact ⟨v, H', J.os, J.bare, J.base, J.hok, rv, q⟩
  | .next, ⟨σ', H', J, q⟩ => exact ⟨.non, H', J.os, J.bare, J.base, J.hok, rfl, q⟩
  | .brk, ⟨_, _, _, q⟩ => exact False.elim q
  | .cont, ⟨_, _, _, q⟩ => exact False.elim q
end

end K17

-- text K17G3
set_option maxHeartbeats 8000000
namespace K17
open PySem PySem.Spec PyProof.Rows L2 Evl
variable {P : Program} {w : World} {K : PySem.W.Frag} {mg : Str → Option Value} {base : Heap} {d : Ad}
/-! ## for whose body wants a token -/
section
variable {X : Cx} {tg iter : Expr} {body : List Stmt} {wi : TI} {g : TG} {tb : TS} {pos : Pos}
theorem pst_forT (hp : PassesOwn (model X.prog X.w) X.A X.env X.xe) (hc : X.calm = true) (hi : PI X tg iter wi) (hg : PG X tg g) (hb : PSsT X body tb) (hs : ∀ x, foldedSetIterable iter X.env x = pure x := by intro _; rfl) :
    PST X (.For tg iter body [] pos) (tFor wi g tb) := by
  intro pins s σ H D h0 I h
  refine wpAny_For (tk h0 (hi.run pins s σ H _ I h) fun v s1 h1 z1 => tk h1 z1 fun itv s2 h2 z2 => ?_) hs
  obtain ⟨it, fp, tn, J, H2, rfl, I2, T, st2, f2, W, ⟨m0, w0⟩, turn⟩ := z2
  have keepFp : ∀ {H' : Hp}, (∀ b ∈ fp, H' b = none) → ∀ b ∈ fp, FpOk X pins H' b := fun hn b hb => ⟨hn b hb, (f2 b hb).2⟩
  refine codeAny_forLoop_any (fun n s' => 1 ≤ s'.toks ∧ ∃ i σ' H', Inv X pins σ' H' s' ∧ tn i s'.heap ∧ (∀ b ∈ fp, H' b = none) ∧ W i n σ' H') ?_ m0 ⟨h2, 0, σ, H2, I2, st2, fun b hb => (f2 b hb).1, w0⟩
  rintro n s3 ⟨t3, i, σ3, H3, I3, st3, fr3, w3⟩
  rcases turn i n σ3 H3 w3 with ⟨stop, qn⟩ | ⟨go, N, hN, step⟩
  · refine wpAny_passesOwn hp (thn (T.done X rfl rfl rfl hc i pins s3 σ3 H3 X.xe I3 (keepFp fr3) st3 stop) fun r s4 ⟨hr, I4⟩ => ?_)
    subst hr
    exact wpAny_execs_nil ⟨σ3, H3, I4, qn⟩
  · refine wpAny_passesOwn hp (tk t3 (T.item X rfl rfl rfl hc i pins s3 σ3 H3 X.xe I3 (keepFp fr3) st3 go) fun r s4 t4 ⟨u, hr, h4⟩ => ?_)
    subst hr
    refine wpAny_passesOwn hp (tk t4 h4 fun _ s5 t5 ⟨x, H5, I5, r5, y5, st5, fr5⟩ => ?_)
    refine wpAny_passesOwn hp (tk t5 (hg.run _ s5 σ3 H5 x u _ (I5.pinned (keepFp fr5) (T.obj _ _ st5)) r5 (step x H5 y5)) fun _ s6 t6 ⟨σ6, H6, I6, q6⟩ => ?_)
    refine wpAny_passesOwn hp (tk t6 (hb _ s6 σ6 H6 _ t6 I6 q6) fun f s7 t7 q7 => ?_)
    have back : ∀ {σ7 : L2.St} {H7 : Hp}, Inv X (pins ++ pinsAt fp s5.heap) σ7 H7 s7 → N σ7 H7 → ∃ m, m < n ∧ 1 ≤ s7.toks ∧ ∃ i σ' H', Inv X pins σ' H' s7 ∧ tn i s7.heap ∧ (∀ b ∈ fp, H' b = none) ∧ W i m σ' H' := fun {σ7 H7} I7 n7 => by
      obtain ⟨m', hm, w7⟩ := hN σ7 H7 n7
      have stay : ∀ b ∈ fp, ∀ o, s5.heap.get? b = some o → s7.heap.get? b = some o ∧ H7 b = none := fun b hb o e =>
        let z := I7.pin (b, o) (List.mem_append_right _ (List.mem_append_right _ (mem_pinsAt hb e)))
        ⟨z.1, z.2.1⟩
      refine ⟨m', hm, t7, i + 1, σ7, H7, I7.unpinned, T.keep _ _ _ st5 fun b hb o e => (stay b hb o e).1, fun b hb => ?_, w7⟩
      obtain ⟨o, e, _⟩ := T.obj _ _ st5 b hb
      exact (stay b hb o e).2
    match f, q7 with
    | .next, ⟨σ7, H7, I7, n7⟩ => exact back I7 n7
    | .cont, ⟨σ7, H7, I7, n7⟩ => exact back I7 n7
    | .brk, ⟨σ7, H7, I7, q7⟩ => exact ⟨σ7, H7, I7.unpinned, q7⟩
    | .ret v, ⟨x7, σ7, H7, I7, r7, q7⟩ => exact ⟨x7, σ7, H7, I7.unpinned, r7, q7⟩
end
/-! ## repr of a list of texts, of an int -/
def shownL (x y : Str) : Str := (PyData.list [.str x, .str y]).shown
section
variable {X : Cx}
theorem call_reprG (hr : Room 3 X.A) (hgd : X.A.guards = some []) : CallR X (.builtin "repr") (fun xs H Q => (∃ i : Int, xs = [.int i] ∧ i.natAbs.log2 < 1920 ∧ Q (.str (Str.ofString (toString i))) H) ∨
    ∃ (a : Addr) (x y : Str), xs = [.ref a] ∧ H a = some (.lst [.str x, .str y]) ∧ (shownL x y).length ≤ sizeLine ∧ Q (.str (shownL x y)) H) := by
  intro pins s σ H xs us Q I r h
  rcases h with h | ⟨a, x, y, rfl, hH, hz, q⟩
  · exact SkE.call_repr_int pins s σ H xs us Q I r h
  · obtain ⟨u1, rfl, r1⟩ := (show ∃ u, us = [u] ∧ RelV (.ref a) u from by cases r with | cons r1 r2 => cases r2; exact ⟨_, rfl, r1⟩)
    cases r1
    obtain ⟨hl, its, n, rv, ho⟩ := I.hok a _ hH
    obtain ⟨v1, v2, rfl, ⟨t1, rfl⟩, ⟨t2, rfl⟩⟩ : ∃ v1 v2, its = [v1, v2] ∧ RelV (.str x) v1 ∧ RelV (.str y) v2 := by
      cases rv with
      | cons ra rb => cases rb with
        | cons rc rd => cases rd; exact ⟨_, _, rfl, ra, rc⟩
    have rd : Reads s.heap (.ref a) (.list [.str x, .str y]) [a] := .list ho rfl rfl (.cons (.str x t1) (.cons (.str y t2) .nil))
    refine PySem.repr_of_reads' rd rfl (fun z => by cases z) hgd (by have := hr.un; show X.A.units + (1 + 1) < cLine; omega) (fun b o e => e) (fun h' u tk0 hk => ⟨.str (shownL x y), H, I.kept (t' := tk0) hk, ⟨u, rfl⟩, q⟩) hz
end

end K17

-- text K17G4
set_option maxHeartbeats 8000000
namespace K17
open PySem PySem.Spec PyProof.Rows L2 Evl
variable {P : Program} {w : World} {K : PySem.W.Frag} {mg : Str → Option Value} {base : Heap} {d : Ad}
/-! ## the law's own call, where no guard stands -/
theorem call_start {P : Program} {w : World} {K : PySem.W.Frag} {mg mb : Str → Option Value} {k : Nat} {fa a : Addr} {fd : FuncData} {x : Str} {sp : Sp} {s₁ : Shared} {items : List Value} {H : Hp}
    (KX : K.In s₁.heap) (hns : s₁.heap.Ns mainGlobals mg) (hb : s₁.heap.Ns builtinsNs mb) (hbb : ∀ x : Str, x ≠ "__name__" → mb x = bootBuiltins x) (hlim : s₁.heap.NoLimit) (hg : s₁.gens = #[])
    (hat : s₁.heap.get? a = some { cls := .type "list", data := .seq items.toArray }) (hr : Room k callerA)
    (F : ∀ base : Heap, K.In base → base.Ns mainGlobals mg → FnG P w K mg base k 0 fa fd [x] sp) (hbind : ∀ (s : Shared) (u : Value), BindsTo s fd ⟨[u], []⟩ [(x, u)])
    (hO : Only H) (hsp : sp [.ref a] H (fun v _ => v = .bl true) E0) (hok : HOk P w H s₁.heap) (one : ∀ b, H b ≠ none → b = a ∧ K.lookup a = none) :
    codeAny (model P w) callerA (.call (.ref fa) ⟨[.ref a], []⟩) (fun r s' => r = .ok (.ret (.bool true)) ∧ OldK s₁.heap s'.heap ∧ s'.os = s₁.os ∧ AllBare s'.gens) s₁ := by
  -- what stands in the heap and is no list stays in the base
  have stays : ∀ {b : Addr} {o : Obj}, s₁.heap.get? b = some o → (o.data ≠ .seq items.toArray ∨ K.lookup b ≠ none) → (hidT s₁.heap H).get? b = some o := fun {b o} e z => by
    refine hidT_get e ?_
    cases q : H b with
    | none => rfl
    | some u =>
      exfalso
      obtain ⟨rfl, nk⟩ := one b (by rw [q]; simp)
      rw [hat] at e
      cases e
      rcases z with z | z
      · exact z rfl
      · exact z nk
  have nss : ∀ {b : Addr} {m : Str → Option Value}, s₁.heap.Ns b m → (hidT s₁.heap H).Ns b m := fun ⟨o, es, ep, e, d, r⟩ => ⟨o, es, ep, stays e (.inl (by rw [d]; exact fun z => by cases z)), d, r⟩
  have inB : K.In (hidT s₁.heap H) := fun b o e => stays (KX b o e) (.inr (by rw [e]; simp))
  have lim : (hidT s₁.heap H).NoLimit := by
    obtain ⟨mc, q1, q2⟩ := hlim
    exact ⟨mc, nss q1, q2⟩
  have e0 : Env0 P w K mg (hidT s₁.heap H) callerA [] s₁ H := {
    frames := rfl
    mod := ⟨inB, nss hns, ⟨mb, nss hb, hbb⟩, lim⟩
    bs := fun b o e => of_hidT e
    bsz := Nat.le_of_eq (hidT_size _ _)
    funs := trivial
    frf := fun b z => by cases z
    hok := hok
    bare := .of_eq hg }
  refine codeAny_mono ((F _ inB (nss hns)).go (us := [.ref a]) (vs := [.ref a]) (Q := fun v _ => v = .bl true) hr rfl (Nat.zero_le _) e0 (hbind s₁ (.ref a)) (.cons rfl .nil) hsp) fun r s' h => ?_
  match r, h with
  | .ok (.ret u), ⟨v, H', os, bare, un, hok', rv, q⟩ =>
    subst q
    obtain rfl : u = Value.bool true := rv
    refine ⟨rfl, OldK.of_keep fun b o e => ?_, os, bare⟩
    rcases hO b with z | ⟨ob, xs, z⟩
    · exact un.keep b o e z (fun y => by cases y) (by simp)
    · obtain ⟨e1, _⟩ := hok b _ z
      obtain ⟨e2, _⟩ := hok' b _ (un.frzs b ob _ z)
      rw [e] at e1
      cases e1
      exact e2
theorem law_callG {P : Program} {w : World} {K : PySem.W.Frag} {mg mb : Str → Option Value} {k : Nat} {fa a : Addr} {fd : FuncData} {x : Str} {sp : Sp} {s₁ : Shared} {items : List Value} {ns : List Int}
    (KX : K.In s₁.heap) (hns : s₁.heap.Ns mainGlobals mg) (hb : s₁.heap.Ns builtinsNs mb) (hbb : ∀ x : Str, x ≠ "__name__" → mb x = bootBuiltins x) (hlim : s₁.heap.NoLimit) (hg : s₁.gens = #[])
    (hat : s₁.heap.get? a = some { cls := .type "list", data := .seq items.toArray }) (hi : IntsAre items ns) (hl : ns.length ≤ sizeLine) (hr : Room k callerA)
    (F : ∀ base : Heap, K.In base → base.Ns mainGlobals mg → FnG P w K mg base k 0 fa fd [x] sp) (hbind : ∀ (s : Shared) (u : Value), BindsTo s fd ⟨[u], []⟩ [(x, u)])
    (hsp : ∀ H : Hp, Only H → SqL K H a (ns.map V.int) → sp [.ref a] H (fun v _ => v = .bl true) E0) :
    codeAny (model P w) callerA (.call (.ref fa) ⟨[.ref a], []⟩) (fun r s' => r = .ok (.ret (.bool true)) ∧ OldK s₁.heap s'.heap ∧ s'.os = s₁.os ∧ AllBare s'.gens) s₁ := by
  have rv := vals_ints hi
  have sz : items.toArray.size ≤ sizeLine := by
    rw [List.size_toArray, hi.length]
    exact hl
  cases hk : K.lookup a with
  | some o =>
    obtain rfl : o = { cls := .type "list", data := .seq items.toArray } := Option.some.inj ((KX a o hk).symm.trans hat)
    have em : Only (fun _ => none) := fun _ => .inl rfl
    refine call_start KX hns hb hbb hlim hg hat hr F hbind em (hsp _ em (.inr ⟨_, items.toArray, _, hk, rfl, rfl, rfl, sz, by simpa using rv⟩)) (fun b u z => by cases z) fun b z => absurd rfl z
  | none =>
    have at_ : ∀ b, (if b = a then some (HO.frz { cls := .type "list", data := .seq items.toArray } (.lst (ns.map V.int))) else none) ≠ none → b = a := fun b z => by
      by_cases hb : b = a
      · exact hb
      · rw [if_neg hb] at z
        exact absurd rfl z
    have em : Only (fun b => if b = a then some (HO.frz { cls := .type "list", data := .seq items.toArray } (.lst (ns.map V.int))) else none) := fun b => by
      by_cases hb : b = a
      · exact .inr ⟨_, _, if_pos hb⟩
      · exact .inl (if_neg hb)
    refine call_start KX hns hb hbb hlim hg hat hr F hbind em (hsp _ em (.inl (.inr ⟨_, if_pos rfl⟩))) (fun b u z => ?_) fun b z => ⟨at_ b z, hk⟩
    obtain rfl := at_ b (by rw [z]; simp)
    rw [if_pos rfl] at z
    cases z
    exact ⟨hat, by rw [List.length_map]; exact hl, items, _, rv, hat⟩
theorem walk_ofG {l : PySem.W.OpenLaw} {n k : Nat} {q : Program} {loose : List Str} {XP : (Str → Option Value) → Heap → Prop} {YP : World → Heap → Prop} {d : DefRec} {x : Str}
    (hn : l.most = some n) (hn2 : n ≤ sizeLine) (hdf : d.params.defaults = []) (hr : Room k callerA)
    (F : ∀ (w : World) (mg : Str → Option Value) (fa : Addr) (h : Heap), YP w h → h.Ns mainGlobals mg → mg d.name = some (.ref fa) →
      ∃ (K : PySem.W.Frag) (fd : FuncData) (sp : Sp), K.In h ∧ (∀ (s : Shared) (u : Value), BindsTo s fd ⟨[u], []⟩ [(x, u)]) ∧
        (∀ (H : Hp) (a : Addr) (ns : List Int), ns.length ≤ n → (∀ k ∈ ns, Builtin.Int.intBits k ≤ 1048576) → Only H → SqL K H a (ns.map V.int) → sp [.ref a] H (fun v _ => v = .bl true) E0) ∧
        ∀ base : Heap, K.In base → base.Ns mainGlobals mg → FnG l.prog w K mg base k 0 fa fd [x] sp) : PySem.W.WalkO q loose XP YP l.row.toRowW d [] (fun f vs => PySem.call f vs) := by
  refine Att.attach_callB hn hdf fun w s₀ s₁ mg mb fa o pm cd doc a items ns G Y ho hd hcd hmg hobj hints hlen hbits hg => ?_
  obtain ⟨K, fd, sp, KX, hb, hsp, hF⟩ := F w mg fa _ Y G.T.g hmg
  exact law_callG KX G.T.g G.T.b G.T.builtins G.T.nolimit hg hobj hints (Nat.le_trans hlen hn2) hr hF hb fun H hO hS => hsp H a ns hlen hbits hO hS

end K17

-- text K17M3
set_option maxHeartbeats 8000000
namespace K17
open PySem PySem.Spec PyProof.Rows L2 Evl
variable {P : Program} {w : World} {K : PySem.W.Frag} {mg : Str → Option Value} {base : Heap} {d : Ad}
/-! ## the signs of a right text are small -/
theorem mem_glue {s c : Nat} : ∀ {ps : List (List Nat)}, c ∈ glue s ps → c = s ∨ ∃ p ∈ ps, c ∈ p
  | [], h => by cases h
  | [p], h => .inr ⟨p, List.mem_cons_self, h⟩
  | p :: q :: r, h => by
    have h2 : c ∈ p ++ s :: glue s (q :: r) := h
    rcases List.mem_append.mp h2 with h3 | h3
    · exact .inr ⟨p, List.mem_cons_self, h3⟩
    · rcases List.mem_cons.mp h3 with h4 | h4
      · exact .inl h4
      · rcases mem_glue h4 with h5 | ⟨z, hz, hc⟩
        · exact .inl h5
        · exact .inr ⟨z, List.mem_cons_of_mem _ hz, hc⟩
def Asc (x : Str) : Prop := ∀ c ∈ tl x, c < 128
theorem asc_name {x : Str} (h : nmB x = true) : Asc x := by
  intro c hc
  have h2 : nmL (tl x) = true := h
  unfold nmL at h2
  have h3 := List.all_eq_true.mp (Bool.and_eq_true_iff.mp h2).2 c hc
  unfold lowB at h3
  have := of_decide_eq_true (Bool.and_eq_true_iff.mp h3).2
  omega
theorem asc_var {x : Str} (h : varB x = true) : Asc x := by
  have h2 : x ∈ [Str.ofString "a", Str.ofString "b", Str.ofString "c", Str.ofString "d"] := by
    have e := inV_strs x [Str.ofString "a", Str.ofString "b", Str.ofString "c", Str.ofString "d"]
    exact of_decide_eq_true (e.symm.trans h)
  have key : ∀ y ∈ [Str.ofString "a", Str.ofString "b", Str.ofString "c", Str.ofString "d"], ∀ c ∈ tl y, c < 128 := by decide +kernel
  exact key x h2
theorem asc_int (n : Int) : Asc (toString n : String) := by
  intro c hc
  have hc : c ∈ tl (Str.ofString (toString n)) := hc
  rw [show tl (Str.ofString (toString n)) = _ from int_text n] at hc
  have key : ∀ k : Nat, c ∈ TL.numL k → c < 128 := fun k hk => by
    by_cases h : c < 128
    · exact h
    · exact absurd hk (TL.numL_free (.inr (by omega)))
  split at hc
  · rcases List.mem_cons.mp hc with h | h
    · omega
    · exact key _ h
  · exact key _ hc
theorem asc_item {k : Str} {v : V} (h : itemB k v = true) : Asc (showV v) := by
  unfold itemB at h
  split at h
  · cases v with
    | str x => exact asc_var h
    | _ => cases h
  · split at h
    · cases v with
      | int i => exact asc_int i
      | _ => cases h
    · split at h
      · cases v with
        | int i => exact asc_int i
        | _ => cases h
      · cases v with
        | str x => exact asc_name h
        | _ => cases h

theorem asc_step {y wd : Str} {ks : List Str} {rest : List V} (h : solM y = some (.str wd :: rest)) (hy : LineOk y) (hst : StOk wd ks rest) (hb : stepB ks rest = true) : Asc y := by
  obtain ⟨t1, _, _⟩ := sol_text h hy
  obtain ⟨hk, hl, _⟩ := hst
  intro c hc
  rw [← t1] at hc
  change c ∈ TL.tl (_ ++ _) at hc
  rw [TL.tl_append] at hc
  rcases List.mem_append.mp hc with z | z
  · have key : ∀ c ∈ tl (Str.ofString "  "), c < 128 := by decide +kernel
    exact key c z
  · rw [TL.join_eq, TL.tl_join, show TL.tl (Str.ofString " ") = [32] from tl_blank, glue_joinL] at z
    rcases mem_glue z with e | ⟨p, hp, hcp⟩
    · omega
    · rw [List.map_map] at hp
      obtain ⟨v, hv, rfl⟩ := List.mem_map.mp hp
      rcases List.mem_cons.mp hv with e | hv
      · subst e
        have key : ∀ q ∈ FORMS, ∀ c ∈ tl q.1, c < 128 := by decide +kernel
        exact key _ (look_mem hk) c hcp
      · obtain ⟨i, hi, e⟩ := List.mem_iff_getElem.mp hv
        have hi2 : i < ks.length := by omega
        have hz : (ks[i], v) ∈ ks.zip rest := by
          rw [← e]
          have hiz : i < (ks.zip rest).length := by rw [List.length_zip]; omega
          have e2 : (ks.zip rest)[i] = (ks[i], rest[i]) := List.getElem_zip
          rw [← e2]
          exact List.getElem_mem hiz
        have q := List.all_eq_true.mp hb _ hz
        exact asc_item q c hcp
theorem text_asc {t : Str} (ht : TextOk t) (h : loadM t = none) : Asc t := by
  obtain ⟨hne, hfw, hend⟩ := load_none h
  obtain ⟨f1, f2, f3, f4, f5, f6⟩ := fw_none _ 0 0 _ hfw (by omega) (by decide)
  rw [List.drop_zero] at f4 f5
  intro c hc
  rw [← end_text hend] at hc
  obtain ⟨y, hy, hcy⟩ := List.mem_flatMap.mp hc
  rcases List.mem_append.mp hcy with z | z
  · have hyl := rows_ok ht y hy
    rw [f5] at hy
    obtain ⟨q, hq, hyq⟩ := List.mem_flatMap.mp hy
    obtain ⟨g1, g2⟩ := f4 q hq
    rcases List.mem_cons.mp hyq with e | e
    · rw [e] at z
      change c ∈ TL.tl (_ ++ _) at z
      rw [TL.tl_append] at z
      rcases List.mem_append.mp z with z | z
      · have key : ∀ c ∈ tl headS, c < 128 := by decide +kernel
        exact key c z
      · exact asc_name g2 c z
    · obtain ⟨_, p2⟩ := prob_ok g1
      obtain ⟨i, hi, e2⟩ := List.mem_iff_getElem.mp e
      have hw := p2 i y (by rw [← e2]; exact List.getElem?_eq_getElem hi)
      unfold wrongRow at hw
      cases hs : solM y with
      | none => rw [hs] at hw; cases hw
      | some items =>
        have hs2 := hs
        unfold solM at hs2
        split at hs2
        · obtain ⟨wd, ks, rest, rfl, hk, hst, hsb⟩ := readW_good hs2 hyl.rest
          exact asc_step hs hyl hst hsb c z
        · cases hs2
  · rw [List.mem_singleton.mp z]
    decide
theorem shown_len {t : Str} (ht : TextOk t) (h : loadM t = none) : (shownL (Str.ofString "read") t).length ≤ sizeLine := by
  have h1 := StrLaws.reprText_len t fun c hc => Nat.lt_of_lt_of_le (text_asc ht h c hc) (by decide)
  have h2 := StrLaws.reprText_len (Str.ofString "read") (by decide +kernel)
  have h3 := ht.len
  have h4 : (Str.ofString "read").length = 4 := by decide +kernel
  have h5 : shownL (Str.ofString "read") t = (((("[" : Str) ++ ("" : Str) ++ reprText (Str.ofString "read")) ++ (", " : Str) ++ reprText t) ++ ("]" : Str)) := rfl
  have l1 : ("[" : Str).length = 1 := by decide +kernel
  have l2 : ("" : Str).length = 0 := by decide +kernel
  have l3 : (", " : Str).length = 2 := by decide +kernel
  have l4 : ("]" : Str).length = 1 := by decide +kernel
  rw [h5, len_app, len_app, len_app, len_app, len_app, l1, l2, l3, l4]
  rw [h4] at h2
  exact Nat.le_trans (m := 16000000) (by omega) (by decide)

end K17

-- text K17Q8
set_option maxHeartbeats 8000000
namespace K17
open PySem PySem.Spec PyProof.Rows L2 Evl
variable {P : Program} {w : World} {K : PySem.W.Frag} {mg : Str → Option Value} {base : Heap} {d : Ad}
/-! ## _law_right -/
theorem glue_map (a b : Nat) : ∀ l : List Nat, glue b (cut a l) = l.map fun c => if c = a then b else c := by
  intro l
  induction l with
  | nil => rfl
  | cons c r ih =>
    have ht := head_tail ([] : List Nat) (cut_ne a r)
    by_cases h : c = a
    · subst h
      rw [cut_hit, List.map_cons, if_pos rfl, ← ih, ← ht]
      rfl
    · rw [cut_miss r h, List.map_cons, if_neg h, ← ih]
      cases hc : (cut a r).tail with
      | nil =>
        rw [hc] at ht
        rw [← ht]
        rfl
      | cons p q =>
        rw [hc] at ht
        rw [← ht]
        rfl
theorem repl_tl (t : Str) : tl (Txt.replace t (Str.ofString "\n") (Str.ofString " ")) = (tl t).map fun c => if c = 10 then 32 else c := by
  have e1 : Str.ofString "\n" = ⟨#[10]⟩ := by decide +kernel
  have e2 : tl (Str.ofString " ") = [32] := tl_blank
  rw [e1, StrLaws.replace_one]
  have e3 : tl (Str.join (Str.ofString " ") (Txt.split t ⟨#[10]⟩)) = TL.joinL [32] ((Txt.split t ⟨#[10]⟩).map tl) := by
    rw [← e2]
    exact TL.tl_join _ _
  rw [e3, glue_joinL, ← e1, lines_tl, glue_map]
theorem repl_len (t : Str) : (Txt.replace t (Str.ofString "\n") (Str.ofString " ")).length = t.length := by
  have h := congrArg List.length (repl_tl t)
  rw [List.length_map] at h
  rw [show (Txt.replace t (Str.ofString "\n") (Str.ofString " ")).length = _ from TL.len_tl _, show t.length = _ from TL.len_tl t]
  exact h
abbrev partsR (t : Str) : List Str := wordsS (Txt.replace t (Str.ofString "\n") (Str.ofString " "))
theorem short_sh {t : Str} (h : ∀ y ∈ partsR t, y.length ≤ 30) : SH (tl t) := by
  intro u hu h32 h10
  have hm : u.map (fun c => if c = 10 then 32 else c) = u := by
    conv => rhs; rw [← List.map_id u]
    refine List.map_congr_left fun c hc => ?_
    rw [if_neg (fun z => h10 (by rw [← z]; exact hc))]
    rfl
  have hi : u <:+: (tl t).map (fun c => if c = 10 then 32 else c) := by
    obtain ⟨p, q, e⟩ := hu
    refine ⟨p.map (fun c => if c = 10 then 32 else c), q.map (fun c => if c = 10 then 32 else c), ?_⟩
    rw [← e, List.map_append, List.map_append, hm]
  rw [← repl_tl] at hi
  obtain ⟨w, hw, hl⟩ := infix_cut 32 hi h32
  rw [← words_tl] at hw
  obtain ⟨y, hy, rfl⟩ := List.mem_map.mp hw
  have q := h y hy
  rw [show y.length = (tl y).length from TL.len_tl y] at q
  omega
theorem load_le {t : Str} (ht : TextOk t) {n : Nat} (h : loadM t = some n) : n ≤ 1000002 := by
  have hl := rows_len ht
  unfold loadM at h
  split at h
  · cases h; omega
  · cases hf : fwM (rowsS t) ((rowsS t).filterMap modS) ((rowsS t).length + 1) 0 0 (Str.ofString "") with
    | some i =>
      rw [hf] at h
      have := fw_lt _ _ _ _ _ hf
      have e : some (i + 1) = some n := h
      injection e
      omega
    | none =>
      rw [hf] at h
      have e : (if endS t = true then none else some (rowsS t).length) = some n := h
      split at e
      · cases e
      · injection e
        omega
def spRight : Sp := fun vs H Q _ => ∃ t : Str, vs = [.str t] ∧ t.length ≤ 1000000 ∧ ∀ H', Ex H H' → Q (.bl true) H'
theorem o__law_right (T : Tx w K mg d) (F : Fd K mg "_law_right" s_L_right []) (o__law_wrong_line : Ok0 P w K mg base 8 "_law_wrong_line" ["_law_shown"] spLL) (o__law_told : Ok0 P w K mg base 13 "_law_told" ["_law_thing"] (spTold K)) :
    OkG P w K mg base 15 1 "_law_right" ["_law_shown"] spRight := by
  obtain ⟨f, fd, hm, F⟩ := F
  refine ⟨f, fd, hm, F.kp, F.bindsN (fun _ _ _ _ _ _ us hl => match us, hl with | [_], _ => rfl), fnG 14 F sc_L_right (fun vs H Q h => by obtain ⟨_, rfl, _⟩ := h; rfl) fun f cdv A outer s H vs Q hr hgd h => ?_⟩
  obtain ⟨t, rfl, ht, hQ⟩ := h
  refine ⟨_, fun pins s2 σ H2 D h1 I q => (psst_cons (pst_ifT (ptt_cmp op_gt (pet_callB (cr_max rfl) (by rfl) T.b_max (by decide +kernel) (pat_one (pet_lc (own := [("_law_word_here", 2)]) rfl sc_L_right.nd (pit_list (pet_m1 PySem.F.slot_str_split PySem.F.type_str_split mt_split (CwR.pet_replC (pv 0)) pe_str)) (blkOk_by (own := [("_law_word_here", 2)]) (N := n_L_right) (sc := defScope s_L_right) (by decide +kernel)) (fun _ _ _ _ _ => (pg_name (i := 2) sc_L_right.nd rfl (Or.inl rfl))) (fun _ _ _ _ _ => pts_nil) (fun _ _ _ _ _ => CwR.PET.of (pe_callB call_len_str (by rfl) T.b_len (by decide +kernel) (pa_cons (pv 2) pa_nil)))))) pe_int (nomark _)) (PSsT.of (pss_one (ps_ret pe_bl))) (PSsT.of pss_nil))
    (PSsT.of (pss_cons (ps_set (i := 1) sc_L_right.nd rfl (.inl rfl) (pe_c o__law_wrong_line (hr.mono (by decide)) pass0 (pa_cons (pv 0) pa_nil)))
    (pss_one (ps_ret (pe_cmpR op_eq (pe_callB (call_reprG (hr.mono (by decide)) hgd) (by rfl) T.b_repr (by decide +kernel) (pa_cons (pe_c o__law_told (hr.mono (by decide)) pass0 (pa_cons (pv 0) pa_nil)) pa_nil)) (pe_callB (call_reprG (hr.mono (by decide)) hgd) (by rfl) T.b_repr (by decide +kernel) (pa_cons (pe_ifExp (pt_cmpR op_isN (pv 1) pe_non (nomark _)) (pe_lst (pa_cons pe_str (pa_cons (pv 0) pa_nil))) (pv 1)) pa_nil)) (nomark _))))))) pins s2 σ H2 D h1 I q, ?_⟩
  try simp only [n_L_right, L2.start, cxK, cxW, cxK', cxW', is_ss, is_si, is_ii, is_ib, is_is, is_bs, is_ns, is_ni, is_nt, Bool.not_false, Bool.not_true, tSeq, tIfS, tRet, tRetN, tNext, tNever, tAsg, gName, tVar, tC, tOp, tUn, tCons, tNil, tCB, tCall, tTest, tB, tAnd, tOr, tNot, tAndV, tOrV, tNotV, tIf, tChain, rI0, rI, rU, rEq, rNe, List.map_cons, List.map_nil, List.length_cons, List.length_nil, List.replicate, List.cons_append, List.nil_append, List.append_nil, List.getElem?_cons_zero, List.getElem?_cons_succ, List.set_cons_zero, List.set_cons_succ, Option.some.injEq, exists_eq_left', exists_eq_left, exists_eq_right, V.str.injEq, V.int.injEq, V.bl.injEq, V.ref.injEq, V.ty.injEq, List.cons.injEq, and_true, true_and, exists_and_left, Nat.zero_add, Nat.add_sub_cancel, Nat.sub_self, Nat.succ_sub_succ_eq_sub, Nat.reduceSub, Nat.reduceAdd, Nat.sub_zero, tYes, tSl, tPart, tNoPart, if_true, Bool.false_eq_true, if_false, reduceCtorEq, false_and, exists_false, or_false, false_or, scal, tLc_eq, tFor_eq, iStr, iList, iTup, RZ.iZipA, decide_false, decide_true, tM1, tM0, tDrop, tAug, ipI]
  try simp only [CwR.tReplC, rNewStrs, tLst, is_ss, is_si, is_ii, is_ib, is_is, is_bs, is_ns, is_ni, is_nt, Bool.not_false, Bool.not_true, tSeq, tIfS, tRet, tRetN, tNext, tNever, tAsg, gName, tVar, tC, tOp, tUn, tCons, tNil, tCB, tCall, tTest, tB, tAnd, tOr, tNot, tAndV, tOrV, tNotV, tIf, tChain, rI0, rI, rU, rEq, rNe, List.map_cons, List.map_nil, List.length_cons, List.length_nil, List.replicate, List.cons_append, List.nil_append, List.append_nil, List.getElem?_cons_zero, List.getElem?_cons_succ, List.set_cons_zero, List.set_cons_succ, Option.some.injEq, exists_eq_left', exists_eq_left, exists_eq_right, V.str.injEq, V.int.injEq, V.bl.injEq, V.ref.injEq, V.ty.injEq, List.cons.injEq, and_true, true_and, exists_and_left, Nat.zero_add, Nat.add_sub_cancel, Nat.sub_self, Nat.succ_sub_succ_eq_sub, Nat.reduceSub, Nat.reduceAdd, Nat.sub_zero, tYes, tSl, tPart, tNoPart, if_true, Bool.false_eq_true, if_false, reduceCtorEq, false_and, exists_false, or_false, false_or, scal, tLc_eq, tFor_eq, iStr, iList, iTup, RZ.iZipA, decide_false, decide_true, tM1, tM0, tDrop, tAug, ipI]
  have e6 : (Str.ofString " ").length = 1 := by decide +kernel
  have hrl := repl_len t
  refine ⟨by rw [e6]; exact Nat.le_trans (m := 16000000) (by omega) (by decide), ⟨_, rfl⟩, by rw [e6]; rfl, small' (by omega), fun p hp => ?_⟩
  have hwl : (partsR t).length ≤ 1000001 := by
    have q : (partsR t).length ≤ _ := words_len (Txt.replace t (Str.ofString "\n") (Str.ofString " "))
    omega
  have hle : ∀ y ∈ partsR t, y.length ≤ 1000000 := fun y hy => by have := words_le _ y hy; omega
  have e1 : Ex H (upd H p (.lst ((partsR t).map V.str))) := Ex.new hp
  have h1 : upd H p (.lst ((partsR t).map V.str)) p = some (.lst ((partsR t).map V.str)) := upd_same
  generalize hH1 : upd H p (.lst ((partsR t).map V.str)) = H1 at e1 h1
  refine ⟨⟨_, SqL.of h1⟩, ?_⟩
  refine lcMA (gv := V.str) (goes_list (xs := (partsR t).map V.str) (small (by rw [List.length_map]; omega))) (fun H3 e => ex_l e (SqL.of h1)) (fun y => V.int (y.length : Int)) (fun y hy H2 e Q' q' => ?_) (fun D H2 hD e2 h2 => ?_) (fun _ => rfl)
  · try simp only [wipe, is_ss, is_si, is_ii, is_ib, is_is, is_bs, is_ns, is_ni, is_nt, Bool.not_false, Bool.not_true, tSeq, tIfS, tRet, tRetN, tNext, tNever, tAsg, gName, tVar, tC, tOp, tUn, tCons, tNil, tCB, tCall, tTest, tB, tAnd, tOr, tNot, tAndV, tOrV, tNotV, tIf, tChain, rI0, rI, rU, rEq, rNe, List.map_cons, List.map_nil, List.length_cons, List.length_nil, List.replicate, List.cons_append, List.nil_append, List.append_nil, List.getElem?_cons_zero, List.getElem?_cons_succ, List.set_cons_zero, List.set_cons_succ, Option.some.injEq, exists_eq_left', exists_eq_left, exists_eq_right, V.str.injEq, V.int.injEq, V.bl.injEq, V.ref.injEq, V.ty.injEq, List.cons.injEq, and_true, true_and, exists_and_left, Nat.zero_add, Nat.add_sub_cancel, Nat.sub_self, Nat.succ_sub_succ_eq_sub, Nat.reduceSub, Nat.reduceAdd, Nat.sub_zero, tYes, tSl, tPart, tNoPart, if_true, Bool.false_eq_true, if_false, reduceCtorEq, false_and, exists_false, or_false, false_or, scal, tLc_eq, tFor_eq, iStr, iList, iTup, RZ.iZipA, decide_false, decide_true, tM1, tM0, tDrop, tAug, ipI]
    exact ⟨small' (by have := hle y hy; omega), q' H2 (Ex.refl _)⟩
  have ex2 := e1.trans e2
  refine ⟨D, (partsR t).map fun y => (y.length : Int), rfl, SqL.of (by rw [h2, List.map_map]; rfl), ?_, fun m hm hmax => ⟨m, rfl, ?_⟩⟩
  · rw [List.length_map]
    exact List.length_pos_iff.mpr (wordsS_ne _)
  by_cases h30 : (30 : Int) < m
  · rw [if_pos (decide_eq_true h30)]
    exact hQ H2 ex2
  rw [if_neg (by rw [decide_eq_true_eq]; exact h30)]
  have hok : TextOk t := ⟨short_sh fun y hy => by
    have := hmax _ (List.mem_map.mpr ⟨y, hy, rfl⟩)
    omega, ht⟩
  refine ⟨t, rfl, hok, fun H3 e3 => ?_⟩
  have ex3 := ex2.trans e3
  rw [← load_law]
  have hnum : ∀ n, loadM t = some n → (n : Int).natAbs.log2 < 1920 := fun n hn => log_small (by
    have := load_le hok hn
    omega)
  refine ⟨_, rfl, .inl ⟨t, rfl, hok, fun hn p4 H4 e4 h4 => ?_, fun n hn H4 e4 => ?_⟩⟩
  · have hz := shown_len hok hn
    rw [hn]
    refine .inr ⟨p4, rfl, _, _, h4, hz, ?_⟩
    rw [if_pos (by rfl)]
    refine ⟨Nat.le_of_ble_eq_true rfl, fun q hq => ⟨_, _, upd_same, hz, ?_⟩⟩
    rw [decide_eq_true rfl]
    exact hQ _ ((ex3.trans e4).trans (Ex.new hq))
  · rw [hn]
    refine .inl ⟨_, rfl, hnum n hn, ?_⟩
    rw [if_neg (by simp [optI])]
    refine .inl ⟨_, rfl, hnum n hn, ?_⟩
    rw [decide_eq_true rfl]
    exact hQ _ (ex3.trans e4)

end K17

-- text K17R1
set_option maxHeartbeats 8000000
namespace K17
open PySem PySem.Spec PyProof.Rows L2 Evl
variable {P : Program} {w : World} {K : PySem.W.Frag} {mg : Str → Option Value} {base : Heap} {d : Ad}
/-! ## the generator: pots and draws -/
def Pot (H : Hp) (p : Addr) : Prop := ∃ a b : Int, H p = some (.lst [.int a, .int b]) ∧ 0 ≤ a ∧ 0 ≤ b ∧ b ≤ 2147483587
/-- what a draw does to the heap -/
structure Dr (p : Addr) (H H' : Hp) : Prop where
  ex : ExB p H H'
  pot : Pot H' p
theorem ExB.refl {p : Addr} {H : Hp} : ExB p H H := fun _ _ _ h => h
theorem ExB.trans {p : Addr} {H H1 H2 : Hp} (a : ExB p H H1) (b : ExB p H1 H2) : ExB p H H2 := fun x o n h => b x o n (a x o n h)
theorem ExB.of {p : Addr} {H H1 : Hp} (a : Ex H H1) : ExB p H H1 := fun x o _ h => a x o h
theorem Pot.ex {p : Addr} {H H1 : Hp} (h : Pot H p) (e : Ex H H1) : Pot H1 p := let ⟨a, b, h1, h2, h3, h4⟩ := h; ⟨a, b, e _ _ h1, h2, h3, h4⟩
theorem Dr.refl {p : Addr} {H : Hp} (h : Pot H p) : Dr p H H := ⟨ExB.refl, h⟩
theorem Dr.trans {p : Addr} {H H1 H2 : Hp} (a : Dr p H H1) (b : Dr p H1 H2) : Dr p H H2 := ⟨a.ex.trans b.ex, b.pot⟩
theorem Dr.then {p : Addr} {H H1 H2 : Hp} (a : Dr p H H1) (b : Ex H1 H2) : Dr p H H2 := ⟨a.ex.trans (.of b), a.pot.ex b⟩
theorem Dr.after {p : Addr} {H H1 H2 : Hp} (a : Ex H H1) (b : Dr p H1 H2) : Dr p H H2 := ⟨(ExB.of a).trans b.ex, b.pot⟩
theorem ExB.get {p b : Addr} {H H1 : Hp} {xs : List V} (e : ExB p H H1) (hp : Pot H p) (h : H b = some (.lst xs)) (hne : ∀ x y : Int, xs ≠ [.int x, .int y]) : H1 b = some (.lst xs) := by
  refine e b _ (fun z => ?_) h
  obtain ⟨x, y, q, _⟩ := hp
  rw [z, q] at h
  cases h
  exact hne x y rfl
def spPot (K : PySem.W.Frag) : Sp := fun vs H Q _ => ∃ (a : Addr) (ns : List Int) (k : Nat), vs = [.ref a, .int k] ∧ SqL K H a (ns.map V.int) ∧ k ≤ 100 ∧ ∀ p H', H p = none → Ex H H' → Pot H' p → Q (.ref p) H'
theorem o__law_pot (T : Tx w K mg d) (F : Fd K mg "_law_pot" s_L_pot []) : Ok0 P w K mg base 3 "_law_pot" ["_law_script", "_law_index"] (spPot K) := by
  refine mkOk 2 F sc_L_pot (fun _ _ _ _ _ _ us hl => match us, hl with | [_, _], _ => rfl) (fun vs H Q E h => by obtain ⟨_, _, _, rfl, _⟩ := h; rfl) fun f cdv A outer s H vs Q E hr h => ?_
  obtain ⟨a, ns, k, rfl, hs, hk, hQ⟩ := h
  refine ⟨_, PSs.nox (pss_cons (ps_set (i := 2) sc_L_pot.nd rfl (.inl rfl) pe_int)
    (pss_cons (ps_if (pt_cmpR op_lt (pv 1) (pe_callB call_len_seq (by rfl) T.b_len (by decide +kernel) (pa_cons (pv 0) pa_nil)) (nomark _)) (pss_one (ps_set (i := 2) sc_L_pot.nd rfl (.inl rfl) (pe_callB call_abs (by rfl) T.b_abs (by decide +kernel) (pa_cons (pe_ix ix_list (pv 0) (pv 1) (fun _ _ => rfl)) pa_nil)))) pss_nil)
    (pss_one (ps_ret (pe_lst (pa_cons (pe_callB (call_max2 rfl) (by rfl) T.b_max (by decide +kernel) (pa_cons pe_int (pa_cons (pe_op op_sub (pv 2) (pe_op op_pow pe_int pe_int)) pa_nil))) (pa_cons (pe_op op_add (pe_op op_mod (pe_op op_pow (pe_op op_add (pe_op op_add (pe_op op_mod (pv 2) pe_int) (pe_op op_mul pe_int (pv 1))) pe_int) pe_int) pe_int) pe_int) pa_nil))))))), ?_⟩
  try simp only [tLst, n_L_pot, L2.start, cxK, cxW, cxK', cxW', is_ss, is_si, is_ii, is_ib, is_is, is_bs, is_ns, is_ni, is_nt, Bool.not_false, Bool.not_true, tSeq, tIfS, tRet, tRetN, tNext, tNever, tAsg, gName, tVar, tC, tOp, tUn, tCons, tNil, tCB, tCall, tTest, tB, tAnd, tOr, tNot, tAndV, tOrV, tNotV, tIf, tChain, rI0, rI, rU, rEq, rNe, List.map_cons, List.map_nil, List.length_cons, List.length_nil, List.replicate, List.cons_append, List.nil_append, List.append_nil, List.getElem?_cons_zero, List.getElem?_cons_succ, List.set_cons_zero, List.set_cons_succ, Option.some.injEq, exists_eq_left', exists_eq_left, exists_eq_right, V.str.injEq, V.int.injEq, V.bl.injEq, V.ref.injEq, V.ty.injEq, List.cons.injEq, and_true, true_and, exists_and_left, Nat.zero_add, Nat.add_sub_cancel, Nat.sub_self, Nat.succ_sub_succ_eq_sub, Nat.reduceSub, Nat.reduceAdd, Nat.sub_zero, tYes, tSl, tPart, tNoPart, if_true, Bool.false_eq_true, if_false, reduceCtorEq, false_and, exists_false, or_false, false_or, scal, tLc_eq, tFor_eq, iStr, iList, iTup, RZ.iZipA, decide_false, decide_true, tM1, tM0, tDrop, tAug, ipI]
  have fin : ∀ c : Int, ∀ H1, Ex H H1 → CPow 10 18 ∧ ∃ i j, (0 = i ∧ c - 10 ^ Int.toNat 18 = j) ∧ (0 : Int) < 2147483629 ∧ CMul 1013 (k : Int) ∧ CPow (c % 2147483629 + 1013 * (k : Int) + 7) 3 ∧ (0 : Int) < 2147483587 ∧ 2 ≤ sizeLine ∧
      ∀ p, H1 p = none → Q (.ref p) (upd H1 p (.lst [V.int (if j > i then j else i), V.int ((c % 2147483629 + 1013 * (k : Int) + 7) ^ Int.toNat 3 % 2147483587 + 1)])) := by
    intro c H1 e1
    refine ⟨⟨by decide, by decide, by decide⟩, 0, _, ⟨rfl, rfl⟩, by decide, .inl ⟨by decide, by decide⟩, ⟨by decide, by decide, ?_⟩, by decide, Nat.le_of_ble_eq_true rfl, fun p hp => ?_⟩
    · have h1 := Int.emod_nonneg c (show (2147483629 : Int) ≠ 0 by decide)
      have h2 := Int.emod_lt_of_pos c (show (0 : Int) < 2147483629 by decide)
      omega
    · refine hQ p _ (fresh_back e1 hp) (e1.trans (Ex.new hp)) ⟨_, _, upd_same, ?_, ?_, ?_⟩
      · split <;> omega
      · have h1 := Int.emod_nonneg ((c % 2147483629 + 1013 * (k : Int) + 7) ^ Int.toNat 3) (show (2147483587 : Int) ≠ 0 by decide)
        omega
      · have h2 := Int.emod_lt_of_pos ((c % 2147483629 + 1013 * (k : Int) + 7) ^ Int.toNat 3) (show (0 : Int) < 2147483587 by decide)
        omega
  refine ⟨_, .inl hs, ?_⟩
  rw [List.length_map]
  by_cases hlt : k < ns.length
  · rw [if_pos (decide_eq_true (by omega))]
    refine ixL hs (v := .int ns[k]) (atN (by simp [hlt])) ⟨_, rfl, ?_⟩
    exact fin _ H (Ex.refl _)
  · rw [if_neg (by rw [decide_eq_true_eq]; omega)]
    exact fin 0 H (Ex.refl _)
def spDraw : Sp := fun vs H Q _ => ∃ (p : Addr) (n : Int), vs = [.ref p, .int n] ∧ Pot H p ∧ 0 < n ∧ n < 2 ^ 110 ∧ ∀ H' i, Dr p H H' → 0 ≤ i → i < n → Q (.int i) H'
theorem o__law_draw (T : Tx w K mg d) (F : Fd K mg "_law_draw" s_L_draw []) : Ok0 P w K mg base 3 "_law_draw" ["_law_pot_here", "_law_bound"] spDraw := by
  refine mkOk 2 F sc_L_draw (fun _ _ _ _ _ _ us hl => match us, hl with | [_, _], _ => rfl) (fun vs H Q E h => by obtain ⟨_, _, rfl, _⟩ := h; rfl) fun f cdv A outer s H vs Q E hr h => ?_
  obtain ⟨p, n, rfl, hp, h0, h1, hQ⟩ := h
  refine ⟨_, PSs.nox (pss_cons (ps_if (pt_cmpR op_gt (pe_ix ix_list (pv 0) pe_int (fun _ _ => rfl)) pe_int (nomark _)) (pss_cons (ps_asg (pe_callB call_divmodW (by rfl) T.b_divmod (by decide +kernel) (pa_cons (pe_ix ix_list (pv 0) pe_int (fun _ _ => rfl)) (pa_cons (pv 1) pa_nil))) (pg_tup (by rfl) (pgs_cons (pg_sub (pv 0) pe_int set_list) (pgs_cons (pg_name (i := 2) sc_L_draw.nd rfl (.inl rfl)) pgs_nil))))
    (pss_one (ps_ret (pv 2)))) pss_nil)
    (pss_cons (ps_asg (pe_op op_mod (pe_op op_add (pe_op op_mul (pe_ix ix_list (pv 0) pe_int (fun _ _ => rfl)) pe_int) pe_int) pe_int) (pg_sub (pv 0) pe_int set_list))
    (pss_one (ps_ret (pe_op op_mod (pe_op op_fdiv (pe_op op_mod (pe_op op_mul (pe_ix ix_list (pv 0) pe_int (fun _ _ => rfl)) (pe_ix ix_list (pv 0) pe_int (fun _ _ => rfl))) pe_int) pe_int) (pv 1)))))), ?_⟩
  try simp only [gTup, gCons, gNil, gSub, n_L_draw, L2.start, cxK, cxW, cxK', cxW', is_ss, is_si, is_ii, is_ib, is_is, is_bs, is_ns, is_ni, is_nt, Bool.not_false, Bool.not_true, tSeq, tIfS, tRet, tRetN, tNext, tNever, tAsg, gName, tVar, tC, tOp, tUn, tCons, tNil, tCB, tCall, tTest, tB, tAnd, tOr, tNot, tAndV, tOrV, tNotV, tIf, tChain, rI0, rI, rU, rEq, rNe, List.map_cons, List.map_nil, List.length_cons, List.length_nil, List.replicate, List.cons_append, List.nil_append, List.append_nil, List.getElem?_cons_zero, List.getElem?_cons_succ, List.set_cons_zero, List.set_cons_succ, Option.some.injEq, exists_eq_left', exists_eq_left, exists_eq_right, V.str.injEq, V.int.injEq, V.bl.injEq, V.ref.injEq, V.ty.injEq, List.cons.injEq, and_true, true_and, exists_and_left, Nat.zero_add, Nat.add_sub_cancel, Nat.sub_self, Nat.succ_sub_succ_eq_sub, Nat.reduceSub, Nat.reduceAdd, Nat.sub_zero, tYes, tSl, tPart, tNoPart, if_true, Bool.false_eq_true, if_false, reduceCtorEq, false_and, exists_false, or_false, false_or, scal, tLc_eq, tFor_eq, iStr, iList, iTup, RZ.iZipA, decide_false, decide_true, tM1, tM0, tDrop, tAug, ipI]
  obtain ⟨a, b, hpo, ha, hb, hb2⟩ := hp
  refine ixL (SqL.of hpo) at0 ⟨a, rfl, ?_⟩
  by_cases hpos : 0 < a
  · rw [if_pos (decide_eq_true hpos)]
    have hpy : Builtin.divisionGoesByPylong a n = false := PyProof.noPylong_of_log2 (by
      have h2 : n.natAbs < 2 ^ 110 := by omega
      have := (Nat.log2_lt (k := 110) (by omega)).mpr h2
      omega)
    refine ixL (SqL.of hpo) at0 ⟨a, n, ⟨rfl, rfl⟩, ⟨h0, hpy⟩, fun q hq => ?_⟩
    have e1 : Ex H (upd H q (.tup [V.int (a / n), V.int (a % n)])) := Ex.new hq
    refine ⟨_, SqT.of upd_same, rfl, _, _, rfl, p, _, 0, 0, rfl, rfl, e1 p _ hpo, rfl, _, _, rfl, rfl, ?_⟩
    refine hQ _ _ ⟨fun x o hx hxo => ?_, _, _, upd_same, ?_, hb, hb2⟩ (Int.emod_nonneg _ (by omega)) (Int.emod_lt_of_pos _ h0)
    · rw [upd_ne hx]
      exact e1 x o hxo
    · exact Int.ediv_nonneg ha (by omega)
  · rw [if_neg (by rw [decide_eq_true_eq]; exact hpos)]
    have p1 : atI [V.int a, V.int b] 1 = some (V.int b) := atN (i := 1) rfl
    refine ixL (SqL.of hpo) p1 ⟨b, rfl, .inl ⟨by omega, by omega⟩, by decide, p, _, 1, 1, rfl, rfl, hpo, rfl, ?_⟩
    obtain ⟨b', hb'⟩ : ∃ b', (b * 48271 + 10037) % 2147483587 = b' := ⟨_, rfl⟩
    have hb0 : 0 ≤ b' := by rw [← hb']; exact Int.emod_nonneg _ (by decide)
    have hb1 : b' < 2147483587 := by rw [← hb']; exact Int.emod_lt_of_pos _ (by decide)
    rw [hb']
    obtain ⟨H2, hH2⟩ : ∃ H2, upd H p (.lst ([V.int a, V.int b].set 1 (V.int b'))) = H2 := ⟨_, rfl⟩
    rw [hH2]
    have h2 : H2 p = some (.lst [V.int a, V.int b']) := by rw [← hH2]; exact upd_same
    have p2 : atI [V.int a, V.int b'] 1 = some (V.int b') := atN (i := 1) rfl
    refine ixL (SqL.of h2) p2 (ixL (SqL.of h2) p2 ⟨b', rfl, b', rfl, ?_⟩)
    refine ⟨.inl ⟨by omega, by omega⟩, by decide, ⟨by decide, by decide⟩, h0, ?_⟩
    refine hQ _ _ ⟨fun x o hx hxo => ?_, _, _, h2, ha, hb0, by omega⟩ (Int.emod_nonneg _ (by omega)) (Int.emod_lt_of_pos _ h0)
    rw [← hH2, upd_ne hx]
    exact hxo
/-- what a draw may choose from: a list of values that hold g, or the signs of a written text -/
def spChoice (K : PySem.W.Frag) : Sp := fun vs H Q _ => ∃ (p : Addr) (o : V), vs = [.ref p, o] ∧ Pot H p ∧
  ((∃ (a : Addr) (xs : List V), o = .ref a ∧ a ≠ p ∧ H a = some (.lst xs) ∧ 0 < xs.length ∧ xs.length ≤ 4000000 ∧ ∀ H' x, Dr p H H' → x ∈ xs → Q x H') ∨
   (∃ x : Str, o = .str x ∧ 0 < x.length ∧ x.length ≤ 100 ∧ ∀ H' c, Dr p H H' → c ∈ tl x → Q (.str ⟨#[c]⟩) H'))
theorem atI_some {α : Type} {xs : List α} {i : Int} (h0 : 0 ≤ i) (h1 : i < (xs.length : Int)) : ∃ x, atI xs i = some x ∧ x ∈ xs := by
  obtain ⟨n, rfl⟩ : ∃ n : Nat, i = (n : Int) := ⟨i.toNat, by omega⟩
  have hn : n < xs.length := by omega
  exact ⟨xs[n], atN (List.getElem?_eq_getElem hn), List.getElem_mem hn⟩
theorem o__law_choice (T : Tx w K mg d) (F : Fd K mg "_law_choice" s_L_choice []) (o__law_draw : Ok0 P w K mg base 3 "_law_draw" ["_law_pot_here", "_law_bound"] spDraw) : Ok0 P w K mg base 4 "_law_choice" ["_law_pot_here", "_law_options"] (spChoice K) := by
  refine mkOk 3 F sc_L_choice (fun _ _ _ _ _ _ us hl => match us, hl with | [_, _], _ => rfl) (fun vs H Q E h => by obtain ⟨_, _, rfl, _⟩ := h; rfl) fun f cdv A outer s H vs Q E hr h => ?_
  obtain ⟨p, o, rfl, hp, hQ⟩ := h
  refine ⟨_, PSs.nox (pss_one (ps_ret (pe_ix ix_seq (pv 1) (pe_c o__law_draw (hr.mono (by decide)) pass0 (pa_cons (pv 0) (pa_cons (pe_callB call_len (by rfl) T.b_len (by decide +kernel) (pa_cons (pv 1) pa_nil)) pa_nil))) (fun _ _ => rfl)))), ?_⟩
  try simp only [n_L_choice, L2.start, cxK, cxW, cxK', cxW', is_ss, is_si, is_ii, is_ib, is_is, is_bs, is_ns, is_ni, is_nt, Bool.not_false, Bool.not_true, tSeq, tIfS, tRet, tRetN, tNext, tNever, tAsg, gName, tVar, tC, tOp, tUn, tCons, tNil, tCB, tCall, tTest, tB, tAnd, tOr, tNot, tAndV, tOrV, tNotV, tIf, tChain, rI0, rI, rU, rEq, rNe, List.map_cons, List.map_nil, List.length_cons, List.length_nil, List.replicate, List.cons_append, List.nil_append, List.append_nil, List.getElem?_cons_zero, List.getElem?_cons_succ, List.set_cons_zero, List.set_cons_succ, Option.some.injEq, exists_eq_left', exists_eq_left, exists_eq_right, V.str.injEq, V.int.injEq, V.bl.injEq, V.ref.injEq, V.ty.injEq, List.cons.injEq, and_true, true_and, exists_and_left, Nat.zero_add, Nat.add_sub_cancel, Nat.sub_self, Nat.succ_sub_succ_eq_sub, Nat.reduceSub, Nat.reduceAdd, Nat.sub_zero, tYes, tSl, tPart, tNoPart, if_true, Bool.false_eq_true, if_false, reduceCtorEq, false_and, exists_false, or_false, false_or, scal, tLc_eq, tFor_eq, iStr, iList, iTup, RZ.iZipA, decide_false, decide_true, tM1, tM0, tDrop, tAug, ipI]
  rcases hQ with ⟨a, xs, rfl, hne, ha, h0, hz, hq⟩ | ⟨x, rfl, h0, hz, hq⟩
  · refine ⟨xs.length, ?_, p, _, rfl, hp, by omega, by omega, fun H1 i dr i0 i1 => ?_⟩
    · exact .inl ⟨xs, SqL.of ha, rfl⟩
    · obtain ⟨x, hx, hm⟩ := atI_some i0 i1
      exact .inl (ixL (SqL.of (dr.ex a _ hne ha)) hx (hq H1 x dr hm))
  · refine ⟨x.length, ?_, p, _, rfl, hp, by omega, by omega, fun H1 i dr i0 i1 => ?_⟩
    · exact ⟨small' (by omega), rfl⟩
    · obtain ⟨c, hc, hm⟩ := atI_some (xs := tl x) i0 (by rw [← show x.length = (tl x).length from TL.len_tl x]; exact i1)
      exact .inr (.inr ⟨x, i, c, rfl, rfl, small' (by omega), hc, hq H1 c dr hm⟩)

end K17

-- text K17R2
set_option maxHeartbeats 8000000
namespace K17
open PySem PySem.Spec PyProof.Rows L2 Evl
variable {P : Program} {w : World} {K : PySem.W.Frag} {mg : Str → Option Value} {base : Heap} {d : Ad}
/-! ## the generator: words -/
theorem Pot.ne {p D : Addr} {H : Hp} (h : Pot H p) (hD : H D = none) : D ≠ p := fun z => by
  obtain ⟨a, b, q, _⟩ := h
  rw [z, q] at hD
  cases hD
theorem Dr.upd {p D : Addr} {H H' : Hp} {o : HO} (dr : Dr p H H') (hD : H D = none) (hne : D ≠ p) : Dr p H (upd H' D o) := by
  refine ⟨fun x u hx hu => ?_, ?_⟩
  · rw [upd_ne (fun z => by rw [z, hD] at hu; cases hu)]
    exact dr.ex x u hx hu
  · obtain ⟨a, b, q, r⟩ := dr.pot
    exact ⟨a, b, by rw [upd_ne hne.symm]; exact q, r⟩
section
variable {J : It} {g : TG} {n : Nat} {S : Hp → Prop} {put : Nat → L2.St → L2.St} {te : TE} {vs : List Nat} {σ : L2.St} {H : Hp} {Q : VK} {p : Addr}
/-- a comprehension whose elements draw -/
theorem lcD (G : Goes J g n S put) (hw : ∀ i, i < n → wipe (put i (wipe σ vs)) vs = wipe σ vs) (hS : ∀ H', S H') (hp : Pot H p) (R : V → Prop)
    (he : ∀ i H', i < n → Dr p H H' → ∀ Q' : VK, (∀ H'' y, Dr p H' H'' → R y → Q' y H'') → te (put i (wipe σ vs)) H' Q')
    (k : ∀ D H' acc, H D = none → Dr p H H' → H' D = some (.lst acc) → acc.length = n → (∀ y ∈ acc, R y) → Q (.ref D) H') : LcW J g tYes te vs σ H Q := by
  refine lcP G hw (fun D i acc H' => H D = none ∧ Dr p H H' ∧ acc.length = i ∧ ∀ y ∈ acc, R y) (fun D hD => ⟨hD, (Dr.refl hp).upd hD (hp.ne hD), rfl, fun y hy => by cases hy⟩) (fun _ _ _ H' _ => hS H')
    (fun D i acc H1 H2 e ⟨q1, q2, q3, q4⟩ => ⟨q1, q2.then e, q3, q4⟩) ?_ ?_
  · rintro D i acc H' hi ⟨q1, q2, q3, q4⟩ hacc hal hsz
    simp only [tYes, if_true]
    refine he i H' hi q2 _ fun H4 y dr hy => ⟨acc, ?_, hsz, acc ++ [y], upd_same, ?_, q1, ?_, ?_, ?_⟩
    · exact dr.ex D _ (hp.ne q1) hacc
    · rw [List.length_append]; simp; omega
    · exact (q2.trans dr).upd q1 (hp.ne q1)
    · rw [List.length_append, q3]; rfl
    · intro z hz
      rcases List.mem_append.mp hz with z1 | z1
      · exact q4 z z1
      · rw [List.mem_singleton.mp z1]; exact hy
  · rintro D acc H' hD hal ⟨q1, q2, q3, q4⟩
    exact k D H' acc q1 q2 hD q3 q4
end
theorem pig {α : Type} [DecidableEq α] : ∀ (l m : List α), l.Nodup → (∀ x ∈ l, x ∈ m) → l.length ≤ m.length
  | [], _, _, _ => Nat.zero_le _
  | x :: l, m, h, s => by
    obtain ⟨h1, h2⟩ := List.nodup_cons.mp h
    have hx := s x List.mem_cons_self
    have q := pig l (m.erase x) h2 fun y hy => (List.mem_erase_of_ne (fun z => h1 (by rw [← z]; exact hy))).mpr (s y (List.mem_cons_of_mem _ hy))
    rw [List.length_erase_of_mem hx] at q
    have : 0 < m.length := List.length_pos_of_mem hx
    rw [List.length_cons]
    omega
def letS : Str := Str.ofString "abcdefghijklmnopqrstuvwxyz"
def spareS (i : Nat) : Str := (⟨#[97 + i / 26]⟩ : Str) ++ (⟨#[97 + i % 26]⟩ : Str) ++ Str.ofString "q"
theorem spare_tl (i : Nat) : tl (spareS i) = [97 + i / 26, 97 + i % 26, 113] := by
  have e : tl (Str.ofString "q") = [113] := by decide +kernel
  show TL.tl (_ ++ _ ++ _) = _
  rw [TL.tl_append, TL.tl_append, show TL.tl (Str.ofString "q") = [113] from e]
  rfl
theorem spare_nd : ((List.range 676).map spareS).Nodup := by
  refine List.pairwise_map.mpr (List.nodup_range.imp fun {a b} h e => h ?_)
  have q : tl (spareS a) = tl (spareS b) := by rw [e]
  rw [spare_tl, spare_tl] at q
  injection q with q1 q2
  injection q2 with q2 _
  omega
theorem let_at {i : Int} (h0 : 0 ≤ i) (h1 : i < 26) : atI letS.cps.toList i = some (97 + i.toNat) := by
  obtain ⟨n, rfl⟩ : ∃ n : Nat, i = (n : Int) := ⟨i.toNat, by omega⟩
  have hn : n < 26 := by omega
  refine atN ?_
  rw [show letS.cps.toList = _ from letters_tl, Int.toNat_natCast]
  have key : ∀ n : Fin 26, [97, 98, 99, 100, 101, 102, 103, 104, 105, 106, 107, 108, 109, 110, 111, 112, 113, 114, 115, 116, 117, 118, 119, 120, 121, 122][n.val]? = some (97 + n.val) := by decide
  exact key ⟨n, hn⟩
theorem join0_len (ys : List Str) : (Txt.join (Str.ofString "") ys).length = (ys.map (·.length)).sum := by
  rw [show (Txt.join (Str.ofString "") ys).length = _ from TL.len_tl _, TL.join_eq, TL.tl_join, show TL.tl (Str.ofString "") = [] from by decide +kernel]
  have key : ∀ l : List (List Nat), (TL.joinL [] l).length = (l.map List.length).sum := by
    intro l
    induction l with
    | nil => rfl
    | cons a r ih =>
      cases r with
      | nil => simp [TL.joinL]
      | cons b r => 
        show (a ++ ([] ++ TL.joinL [] (b :: r))).length = _
        rw [List.nil_append, List.length_append, ih]
        simp
  rw [key, List.map_map]
  congr 1
/-- one of the written words, short -/
def Short (v : V) : Prop := ∃ x : Str, v = .str x ∧ x.length ≤ 10
def spWord : Sp := fun vs H Q _ => ∃ (p u : Addr) (ws : List Str), vs = [.ref p, .ref u] ∧ Pot H p ∧ u ≠ p ∧ H u = some (.lst (ws.map V.str)) ∧ ws.length ≤ 100 ∧ ∀ H' x, Dr p H H' → x.length ≤ 10 → x ∉ ws → Q (.str x) H'
theorem o__law_word (T : Tx w K mg d) (F : Fd K mg "_law_word" s_L_word []) (o__law_draw : Ok0 P w K mg base 3 "_law_draw" ["_law_pot_here", "_law_bound"] spDraw) : Ok0 P w K mg base 4 "_law_word" ["_law_pot_here", "_law_used"] spWord := by
  refine mkOk 3 F sc_L_word (fun _ _ _ _ _ _ us hl => match us, hl with | [_, _], _ => rfl) (fun vs H Q E h => by obtain ⟨_, _, _, rfl, _⟩ := h; rfl) fun f cdv A outer s H vs Q E hr h => ?_
  obtain ⟨p, u, ws, rfl, hp, hne, hu, hz, hQ⟩ := h
  refine ⟨_, PSs.nox (pss_cons (ps_set (i := 2) sc_L_word.nd rfl (.inr rfl) pe_str)
    (pss_cut (ps_set (i := 3) sc_L_word.nd rfl (.inl rfl) (pe_ix ix_list (pe_lst (pa_cons pe_int (pa_cons pe_int (pa_cons pe_int (pa_cons pe_int (pa_cons (pe_op op_add pe_int (pe_c o__law_draw (hr.mono (by decide)) pass0 (pa_cons (pv 0) (pa_cons pe_int pa_nil)))) pa_nil)))))) (pe_c o__law_draw (hr.mono (by decide)) pass0 (pa_cons (pv 0) (pa_cons pe_int pa_nil))) (fun _ _ => rfl)))
    (pss_cut (ps_set (i := 4) sc_L_word.nd rfl (.inl rfl) (pe_join pe_str (pe_lc (own := [("_law_turn", 6)]) rfl sc_L_word.nd (pi_range1 (by rfl) T.b_range (pa_cons (pv 3) pa_nil)) (blkOk_by (own := [("_law_turn", 6)]) (N := n_L_word) (sc := defScope s_L_word) (by decide +kernel)) (fun _ _ _ _ _ => (pg_name (i := 6) sc_L_word.nd rfl (Or.inl rfl))) (fun _ _ _ _ _ => pts_nil) (fun _ _ _ _ _ => (pe_ix ix_str (pv 2) (pe_c o__law_draw (hr.mono (by decide)) pass0 (pa_cons (pv 0) (pa_cons pe_int pa_nil))) (fun _ _ => rfl))))))
    (pss_cut (ps_if (pt_cmpR op_eq (pe_c o__law_draw (hr.mono (by decide)) pass0 (pa_cons (pv 0) (pa_cons pe_int pa_nil))) pe_int (nomark _)) (pss_one (ps_set (i := 4) sc_L_word.nd rfl (.inl rfl) (pe_ix ix_list (pe_lst (pa_cons pe_str (pa_cons pe_str (pa_cons pe_str (pa_cons pe_str (pa_cons pe_str (pa_cons pe_str (pa_cons pe_str (pa_cons pe_str (pa_cons pe_str (pa_cons pe_str pa_nil))))))))))) (pe_c o__law_draw (hr.mono (by decide)) pass0 (pa_cons (pv 0) (pa_cons pe_int pa_nil))) (fun _ _ => rfl)))) pss_nil)
    (pss_cons (ps_if (pt_cmpR op_in_seq (pv 4) (pv 1) (by rfl)) (pss_cut (ps_setLc (i := 5) (own := [("_law_at", 7)]) rfl sc_L_word.nd rfl rfl (sw_true rfl rfl rfl (by decide +kernel)) (pi_range1 (by rfl) T.b_range (pa_cons pe_int pa_nil)) (blkOk_by (own := [("_law_at", 7)]) (N := n_L_word) (sc := defScope s_L_word) (by decide +kernel)) (fun _ _ _ _ _ => (pg_name (i := 7) sc_L_word.nd rfl (Or.inl rfl))) (fun _ _ _ _ _ => pts_nil) (fun _ _ _ _ _ => (pe_op op_add_str (pe_op op_add_str (pe_ix ix_str (pv 2) (pe_op op_fdiv (pv 7) pe_int) (fun _ _ => rfl)) (pe_ix ix_str (pv 2) (pe_op op_mod (pv 7) pe_int) (fun _ _ => rfl))) pe_str)))
    (pss_one (ps_ret (pe_ix ix_list (pe_lc (own := [("_law_one", 8)]) rfl sc_L_word.nd (pi_list (pv 5)) (blkOk_by (own := [("_law_one", 8)]) (N := n_L_word) (sc := defScope s_L_word) (by decide +kernel)) (fun _ _ _ _ _ => (pg_name (i := 8) sc_L_word.nd rfl (Or.inl rfl))) (fun _ _ _ _ _ => (pts_one (pt_cmpR (op_notIn_seqB K) (pv 8) (pv 1) (by rfl)))) (fun _ _ _ _ _ => (pv 8))) pe_int (fun _ _ => rfl))))) pss_nil)
    (pss_one (ps_ret (pv 4)))))))), ?_⟩
  try simp only [tLst, n_L_word, L2.start, cxK, cxW, cxK', cxW', is_ss, is_si, is_ii, is_ib, is_is, is_bs, is_ns, is_ni, is_nt, Bool.not_false, Bool.not_true, tSeq, tIfS, tRet, tRetN, tNext, tNever, tAsg, gName, tVar, tC, tOp, tUn, tCons, tNil, tCB, tCall, tTest, tB, tAnd, tOr, tNot, tAndV, tOrV, tNotV, tIf, tChain, rI0, rI, rU, rEq, rNe, List.map_cons, List.map_nil, List.length_cons, List.length_nil, List.replicate, List.cons_append, List.nil_append, List.append_nil, List.getElem?_cons_zero, List.getElem?_cons_succ, List.set_cons_zero, List.set_cons_succ, Option.some.injEq, exists_eq_left', exists_eq_left, exists_eq_right, V.str.injEq, V.int.injEq, V.bl.injEq, V.ref.injEq, V.ty.injEq, List.cons.injEq, and_true, true_and, exists_and_left, Nat.zero_add, Nat.add_sub_cancel, Nat.sub_self, Nat.succ_sub_succ_eq_sub, Nat.reduceSub, Nat.reduceAdd, Nat.sub_zero, tYes, tSl, tPart, tNoPart, if_true, Bool.false_eq_true, if_false, reduceCtorEq, false_and, exists_false, or_false, false_or, scal, tLc_eq, tFor_eq, iStr, iList, iTup, RZ.iZipA, decide_false, decide_true, tM1, tM0, tDrop, tAug, ipI]
  have lS : letS.length = 26 := by decide +kernel
  -- the size
  refine ⟨fun σ' H' => ∃ n : Int, σ' = [some (.ref p), some (.ref u), some (.str letS), some (.int n), none, none, none, none, none] ∧ Dr p H H' ∧ 1 ≤ n ∧ n ≤ 8, ?_, ?_⟩
  · try simp only [tLst, is_ss, is_si, is_ii, is_ib, is_is, is_bs, is_ns, is_ni, is_nt, Bool.not_false, Bool.not_true, tSeq, tIfS, tRet, tRetN, tNext, tNever, tAsg, gName, tVar, tC, tOp, tUn, tCons, tNil, tCB, tCall, tTest, tB, tAnd, tOr, tNot, tAndV, tOrV, tNotV, tIf, tChain, rI0, rI, rU, rEq, rNe, List.map_cons, List.map_nil, List.length_cons, List.length_nil, List.replicate, List.cons_append, List.nil_append, List.append_nil, List.getElem?_cons_zero, List.getElem?_cons_succ, List.set_cons_zero, List.set_cons_succ, Option.some.injEq, exists_eq_left', exists_eq_left, exists_eq_right, V.str.injEq, V.int.injEq, V.bl.injEq, V.ref.injEq, V.ty.injEq, List.cons.injEq, and_true, true_and, exists_and_left, Nat.zero_add, Nat.add_sub_cancel, Nat.sub_self, Nat.succ_sub_succ_eq_sub, Nat.reduceSub, Nat.reduceAdd, Nat.sub_zero, tYes, tSl, tPart, tNoPart, if_true, Bool.false_eq_true, if_false, reduceCtorEq, false_and, exists_false, or_false, false_or, scal, tLc_eq, tFor_eq, iStr, iList, iTup, RZ.iZipA, decide_false, decide_true, tM1, tM0, tDrop, tAug, ipI]
    refine ⟨p, 8, rfl, hp, by decide, by decide, fun H1 i d1 i0 i1 => ⟨_, rfl, Nat.le_of_ble_eq_true rfl, fun q hq => ?_⟩⟩
    have e1 : Ex H1 (upd H1 q (.lst [V.int 1, V.int 1, V.int 2, V.int 8, V.int (1 + i)])) := Ex.new hq
    refine ⟨p, 5, rfl, d1.pot.ex e1, by decide, by decide, fun H2 k d2 k0 k1 => ?_⟩
    have h2 := d2.ex q _ (d1.pot.ne hq) upd_same
    obtain ⟨x, hx, hm⟩ := atI_some (xs := [V.int 1, V.int 1, V.int 2, V.int 8, V.int (1 + i)]) k0 k1
    refine ixL (SqL.of h2) hx ?_
    obtain ⟨n, rfl, n0, n1⟩ : ∃ n : Int, x = .int n ∧ 1 ≤ n ∧ n ≤ 8 := by
      simp only [List.mem_cons, List.not_mem_nil, or_false] at hm
      rcases hm with rfl | rfl | rfl | rfl | rfl
      · exact ⟨_, rfl, by decide, by decide⟩
      · exact ⟨_, rfl, by decide, by decide⟩
      · exact ⟨_, rfl, by decide, by decide⟩
      · exact ⟨_, rfl, by decide, by decide⟩
      · exact ⟨_, rfl, by omega, by omega⟩
    exact ⟨n, ⟨rfl, rfl⟩, (d1.then e1).trans d2, n0, n1⟩
  rintro σ' H1 ⟨n, rfl, d1, n0, n1⟩
  refine ⟨fun σ' H' => ∃ x : Str, σ' = [some (.ref p), some (.ref u), some (.str letS), some (.int n), some (.str x), none, none, none, none] ∧ Dr p H H' ∧ x.length ≤ 10, ?_, ?_⟩
  · try simp only [iRng1, is_ss, is_si, is_ii, is_ib, is_is, is_bs, is_ns, is_ni, is_nt, Bool.not_false, Bool.not_true, tSeq, tIfS, tRet, tRetN, tNext, tNever, tAsg, gName, tVar, tC, tOp, tUn, tCons, tNil, tCB, tCall, tTest, tB, tAnd, tOr, tNot, tAndV, tOrV, tNotV, tIf, tChain, rI0, rI, rU, rEq, rNe, List.map_cons, List.map_nil, List.length_cons, List.length_nil, List.replicate, List.cons_append, List.nil_append, List.append_nil, List.getElem?_cons_zero, List.getElem?_cons_succ, List.set_cons_zero, List.set_cons_succ, Option.some.injEq, exists_eq_left', exists_eq_left, exists_eq_right, V.str.injEq, V.int.injEq, V.bl.injEq, V.ref.injEq, V.ty.injEq, List.cons.injEq, and_true, true_and, exists_and_left, Nat.zero_add, Nat.add_sub_cancel, Nat.sub_self, Nat.succ_sub_succ_eq_sub, Nat.reduceSub, Nat.reduceAdd, Nat.sub_zero, tYes, tSl, tPart, tNoPart, if_true, Bool.false_eq_true, if_false, reduceCtorEq, false_and, exists_false, or_false, false_or, scal, tLc_eq, tFor_eq, iStr, iList, iTup, RZ.iZipA, decide_false, decide_true, tM1, tM0, tDrop, tAug, ipI]
    refine ⟨⟨_, rfl⟩, by omega, by omega, ?_⟩
    refine lcD (goes_rng (small (by omega))) (fun _ _ => rfl) (fun _ => trivial) d1.pot (fun v => ∃ x : Str, v = .str x ∧ x.length = 1) (fun i H2 hi d2 Q' q' => ?_) (fun D H2 acc hD d2 h2 hl hR => ?_)
    · try simp only [wipe, is_ss, is_si, is_ii, is_ib, is_is, is_bs, is_ns, is_ni, is_nt, Bool.not_false, Bool.not_true, tSeq, tIfS, tRet, tRetN, tNext, tNever, tAsg, gName, tVar, tC, tOp, tUn, tCons, tNil, tCB, tCall, tTest, tB, tAnd, tOr, tNot, tAndV, tOrV, tNotV, tIf, tChain, rI0, rI, rU, rEq, rNe, List.map_cons, List.map_nil, List.length_cons, List.length_nil, List.replicate, List.cons_append, List.nil_append, List.append_nil, List.getElem?_cons_zero, List.getElem?_cons_succ, List.set_cons_zero, List.set_cons_succ, Option.some.injEq, exists_eq_left', exists_eq_left, exists_eq_right, V.str.injEq, V.int.injEq, V.bl.injEq, V.ref.injEq, V.ty.injEq, List.cons.injEq, and_true, true_and, exists_and_left, Nat.zero_add, Nat.add_sub_cancel, Nat.sub_self, Nat.succ_sub_succ_eq_sub, Nat.reduceSub, Nat.reduceAdd, Nat.sub_zero, tYes, tSl, tPart, tNoPart, if_true, Bool.false_eq_true, if_false, reduceCtorEq, false_and, exists_false, or_false, false_or, scal, tLc_eq, tFor_eq, iStr, iList, iTup, RZ.iZipA, decide_false, decide_true, tM1, tM0, tDrop, tAug, ipI]
      refine ⟨p, 26, rfl, d2.pot, by decide, by decide, fun H3 k d3 k0 k1 => ?_⟩
      exact ⟨_, _, _, rfl, rfl, by rw [lS]; exact small' (by omega), let_at k0 k1, q' _ _ d3 ⟨_, rfl, rfl⟩⟩
    · obtain ⟨ys, rfl, hys⟩ : ∃ ys : List Str, acc = ys.map V.str ∧ ∀ y ∈ ys, y.length = 1 := by
        clear h2 hl
        induction acc with
        | nil => exact ⟨[], rfl, fun y hy => by cases hy⟩
        | cons a r ih =>
          obtain ⟨ys, q1, q2⟩ := ih fun y hy => hR y (List.mem_cons_of_mem _ hy)
          obtain ⟨x, rfl, hx⟩ := hR a List.mem_cons_self
          exact ⟨x :: ys, by rw [q1]; rfl, fun y hy => by
            rcases List.mem_cons.mp hy with e | e
            · rw [e]; exact hx
            · exact q2 y e⟩
      rw [List.length_map] at hl
      have hsum : (ys.map (·.length)).sum = ys.length := by
        clear h2 hl hR
        induction ys with
        | nil => rfl
        | cons a r ih =>
          rw [List.map_cons, List.sum_cons, ih fun y hy => hys y (List.mem_cons_of_mem _ hy), hys a List.mem_cons_self, List.length_cons]
          omega
      have e0 : (Str.ofString "").length = 0 := by decide +kernel
      have hys8 : ys.length ≤ 8 := by omega
      refine ⟨D, rfl, ys, .inl (SqL.of h2), by rw [hsum, e0]; omega, ?_⟩
      refine ⟨d1.trans d2, ?_⟩
      rw [join0_len, hsum]
      omega
  rintro σ' H2 ⟨x, rfl, d2, hx⟩
  refine ⟨fun σ' H' => ∃ x : Str, σ' = [some (.ref p), some (.ref u), some (.str letS), some (.int n), some (.str x), none, none, none, none] ∧ Dr p H H' ∧ x.length ≤ 10, ?_, ?_⟩
  · try simp only [tLst, is_ss, is_si, is_ii, is_ib, is_is, is_bs, is_ns, is_ni, is_nt, Bool.not_false, Bool.not_true, tSeq, tIfS, tRet, tRetN, tNext, tNever, tAsg, gName, tVar, tC, tOp, tUn, tCons, tNil, tCB, tCall, tTest, tB, tAnd, tOr, tNot, tAndV, tOrV, tNotV, tIf, tChain, rI0, rI, rU, rEq, rNe, List.map_cons, List.map_nil, List.length_cons, List.length_nil, List.replicate, List.cons_append, List.nil_append, List.append_nil, List.getElem?_cons_zero, List.getElem?_cons_succ, List.set_cons_zero, List.set_cons_succ, Option.some.injEq, exists_eq_left', exists_eq_left, exists_eq_right, V.str.injEq, V.int.injEq, V.bl.injEq, V.ref.injEq, V.ty.injEq, List.cons.injEq, and_true, true_and, exists_and_left, Nat.zero_add, Nat.add_sub_cancel, Nat.sub_self, Nat.succ_sub_succ_eq_sub, Nat.reduceSub, Nat.reduceAdd, Nat.sub_zero, tYes, tSl, tPart, tNoPart, if_true, Bool.false_eq_true, if_false, reduceCtorEq, false_and, exists_false, or_false, false_or, scal, tLc_eq, tFor_eq, iStr, iList, iTup, RZ.iZipA, decide_false, decide_true, tM1, tM0, tDrop, tAug, ipI]
    refine ⟨p, 12, rfl, d2.pot, by decide, by decide, fun H3 k d3 k0 k1 => ?_⟩
    try simp only [is_ss, is_si, is_ii, is_ib, is_is, is_bs, is_ns, is_ni, is_nt, Bool.not_false, Bool.not_true, tSeq, tIfS, tRet, tRetN, tNext, tNever, tAsg, gName, tVar, tC, tOp, tUn, tCons, tNil, tCB, tCall, tTest, tB, tAnd, tOr, tNot, tAndV, tOrV, tNotV, tIf, tChain, rI0, rI, rU, rEq, rNe, List.map_cons, List.map_nil, List.length_cons, List.length_nil, List.replicate, List.cons_append, List.nil_append, List.append_nil, List.getElem?_cons_zero, List.getElem?_cons_succ, List.set_cons_zero, List.set_cons_succ, Option.some.injEq, exists_eq_left', exists_eq_left, exists_eq_right, V.str.injEq, V.int.injEq, V.bl.injEq, V.ref.injEq, V.ty.injEq, List.cons.injEq, and_true, true_and, exists_and_left, Nat.zero_add, Nat.add_sub_cancel, Nat.sub_self, Nat.succ_sub_succ_eq_sub, Nat.reduceSub, Nat.reduceAdd, Nat.sub_zero, tYes, tSl, tPart, tNoPart, if_true, Bool.false_eq_true, if_false, reduceCtorEq, false_and, exists_false, or_false, false_or, scal, tLc_eq, tFor_eq, iStr, iList, iTup, RZ.iZipA, decide_false, decide_true, tM1, tM0, tDrop, tAug, ipI]
    have d23 := d2.trans d3
    by_cases hk : k = 0
    · rw [if_pos (decide_eq_true hk)]
      refine ⟨Nat.le_of_ble_eq_true rfl, fun q hq => ?_⟩
      generalize hL : [V.str (Str.ofString "module"), V.str (Str.ofString "need"), V.str (Str.ofString "try"), V.str (Str.ofString "fail"), V.str (Str.ofString "act"), V.str (Str.ofString "thread"), V.str (Str.ofString "retry"), V.str (Str.ofString "unload"), V.str (Str.ofString "ready"), V.str (Str.ofString "a")] = L
      have e1 : Ex H3 (upd H3 q (.lst L)) := Ex.new hq
      refine ⟨p, 10, rfl, d3.pot.ex e1, by decide, by decide, fun H4 j d4 j0 j1 => ?_⟩
      have h4 := d4.ex q _ (d3.pot.ne hq) upd_same
      obtain ⟨z, hz2, hm⟩ := atI_some (xs := L) j0 (by rw [← hL]; exact j1)
      refine ixL (SqL.of h4) hz2 ?_
      have key : ∀ y ∈ [Str.ofString "module", Str.ofString "need", Str.ofString "try", Str.ofString "fail", Str.ofString "act", Str.ofString "thread", Str.ofString "retry", Str.ofString "unload", Str.ofString "ready", Str.ofString "a"], y.length ≤ 10 := by decide +kernel
      obtain ⟨y, rfl, hy⟩ : ∃ y : Str, z = .str y ∧ y.length ≤ 10 := by
        have hm2 : z ∈ [Str.ofString "module", Str.ofString "need", Str.ofString "try", Str.ofString "fail", Str.ofString "act", Str.ofString "thread", Str.ofString "retry", Str.ofString "unload", Str.ofString "ready", Str.ofString "a"].map V.str := by rw [← hL] at hm; exact hm
        obtain ⟨y, hy, rfl⟩ := List.mem_map.mp hm2
        exact ⟨y, rfl, key y hy⟩
      exact ⟨y, rfl, (d23.then e1).trans d4, hy⟩
    · rw [if_neg (by rw [decide_eq_true_eq]; exact hk)]
      exact ⟨d23, hx⟩
  rintro σ' H3 ⟨x, rfl, d3, hx⟩
  have hu3 := d3.ex u _ hne hu
  try simp only [iRng1, is_ss, is_si, is_ii, is_ib, is_is, is_bs, is_ns, is_ni, is_nt, Bool.not_false, Bool.not_true, tSeq, tIfS, tRet, tRetN, tNext, tNever, tAsg, gName, tVar, tC, tOp, tUn, tCons, tNil, tCB, tCall, tTest, tB, tAnd, tOr, tNot, tAndV, tOrV, tNotV, tIf, tChain, rI0, rI, rU, rEq, rNe, List.map_cons, List.map_nil, List.length_cons, List.length_nil, List.replicate, List.cons_append, List.nil_append, List.append_nil, List.getElem?_cons_zero, List.getElem?_cons_succ, List.set_cons_zero, List.set_cons_succ, Option.some.injEq, exists_eq_left', exists_eq_left, exists_eq_right, V.str.injEq, V.int.injEq, V.bl.injEq, V.ref.injEq, V.ty.injEq, List.cons.injEq, and_true, true_and, exists_and_left, Nat.zero_add, Nat.add_sub_cancel, Nat.sub_self, Nat.succ_sub_succ_eq_sub, Nat.reduceSub, Nat.reduceAdd, Nat.sub_zero, tYes, tSl, tPart, tNoPart, if_true, Bool.false_eq_true, if_false, reduceCtorEq, false_and, exists_false, or_false, false_or, scal, tLc_eq, tFor_eq, iStr, iList, iTup, RZ.iZipA, decide_false, decide_true, tM1, tM0, tDrop, tAug, ipI]
  refine inQ (.inl (SqL.of hu3)) rfl (flat_strs ws) ⟨_, rfl, ?_⟩
  rw [inV_strs]
  by_cases hin : x ∈ ws
  rotate_left
  · rw [if_neg (by rw [decide_eq_true_eq]; exact hin)]
    exact hQ H3 x d3 hx hin
  rw [if_pos (decide_eq_true hin)]
  refine ⟨fun σ' H' => ∃ sp, σ' = [some (.ref p), some (.ref u), some (.str letS), some (.int n), some (.str x), some (.ref sp), none, none, none] ∧ Ex H3 H' ∧ H' sp = some (.lst (((List.range 676).map spareS).map V.str)), ?_, ?_⟩
  · try simp only [iRng1, is_ss, is_si, is_ii, is_ib, is_is, is_bs, is_ns, is_ni, is_nt, Bool.not_false, Bool.not_true, tSeq, tIfS, tRet, tRetN, tNext, tNever, tAsg, gName, tVar, tC, tOp, tUn, tCons, tNil, tCB, tCall, tTest, tB, tAnd, tOr, tNot, tAndV, tOrV, tNotV, tIf, tChain, rI0, rI, rU, rEq, rNe, List.map_cons, List.map_nil, List.length_cons, List.length_nil, List.replicate, List.cons_append, List.nil_append, List.append_nil, List.getElem?_cons_zero, List.getElem?_cons_succ, List.set_cons_zero, List.set_cons_succ, Option.some.injEq, exists_eq_left', exists_eq_left, exists_eq_right, V.str.injEq, V.int.injEq, V.bl.injEq, V.ref.injEq, V.ty.injEq, List.cons.injEq, and_true, true_and, exists_and_left, Nat.zero_add, Nat.add_sub_cancel, Nat.sub_self, Nat.succ_sub_succ_eq_sub, Nat.reduceSub, Nat.reduceAdd, Nat.sub_zero, tYes, tSl, tPart, tNoPart, if_true, Bool.false_eq_true, if_false, reduceCtorEq, false_and, exists_false, or_false, false_or, scal, tLc_eq, tFor_eq, iStr, iList, iTup, RZ.iZipA, decide_false, decide_true, tM1, tM0, tDrop, tAug, ipI]
    refine ⟨by decide, by decide, ?_⟩
    refine lcE (G := goes_rng (j := 7) (small (by decide))) (fun _ _ => rfl) (fun _ _ => trivial) (fun _ => true) (fun i => V.str (spareS i)) (fun i H1 hi e => et_yes) (fun i H4 hi e _ H5 e5 Q' q' => ?_) ?_
    · try simp only [wipe, is_ss, is_si, is_ii, is_ib, is_is, is_bs, is_ns, is_ni, is_nt, Bool.not_false, Bool.not_true, tSeq, tIfS, tRet, tRetN, tNext, tNever, tAsg, gName, tVar, tC, tOp, tUn, tCons, tNil, tCB, tCall, tTest, tB, tAnd, tOr, tNot, tAndV, tOrV, tNotV, tIf, tChain, rI0, rI, rU, rEq, rNe, List.map_cons, List.map_nil, List.length_cons, List.length_nil, List.replicate, List.cons_append, List.nil_append, List.append_nil, List.getElem?_cons_zero, List.getElem?_cons_succ, List.set_cons_zero, List.set_cons_succ, Option.some.injEq, exists_eq_left', exists_eq_left, exists_eq_right, V.str.injEq, V.int.injEq, V.bl.injEq, V.ref.injEq, V.ty.injEq, List.cons.injEq, and_true, true_and, exists_and_left, Nat.zero_add, Nat.add_sub_cancel, Nat.sub_self, Nat.succ_sub_succ_eq_sub, Nat.reduceSub, Nat.reduceAdd, Nat.sub_zero, tYes, tSl, tPart, tNoPart, if_true, Bool.false_eq_true, if_false, reduceCtorEq, false_and, exists_false, or_false, false_or, scal, tLc_eq, tFor_eq, iStr, iList, iTup, RZ.iZipA, decide_false, decide_true, tM1, tM0, tDrop, tAug, ipI]
      have hi6 : i < 676 := hi
      rw [Int.zero_add]
      have c1 : ((i : Int) / 26).toNat = i / 26 := by omega
      have c2 : ((i : Int) % 26).toNat = i % 26 := by omega
      have eq : (Str.ofString "q").length = 1 := by decide +kernel
      have l1 : ∀ c : Nat, (⟨#[c]⟩ : Str).length = 1 := fun _ => rfl
      refine ⟨⟨by decide, by decide⟩, _, _, _, rfl, rfl, by rw [lS]; exact small' (by omega), let_at (i := (i : Int) / 26) (by omega) (by omega), by decide, _, _, _, rfl, rfl, by rw [lS]; exact small' (by omega), let_at (i := (i : Int) % 26) (by omega) (by omega), _, rfl, _, rfl, ?_, ?_, ?_⟩
      · rw [l1, l1]; exact small' (by omega)
      · rw [len_app, l1, l1, eq]; exact small' (by omega)
      · rw [c1, c2]
        exact q' H5 (Ex.refl _)
    · intro D H2 hD e h2
      refine ⟨D, rfl, e, ?_⟩
      rw [h2]
      unfold given
      rw [List.map_map, List.filter_eq_self.mpr (fun _ _ => rfl)]
      rfl
  rintro σ' H4 ⟨sp, rfl, e4, h4⟩
  try simp only [is_ss, is_si, is_ii, is_ib, is_is, is_bs, is_ns, is_ni, is_nt, Bool.not_false, Bool.not_true, tSeq, tIfS, tRet, tRetN, tNext, tNever, tAsg, gName, tVar, tC, tOp, tUn, tCons, tNil, tCB, tCall, tTest, tB, tAnd, tOr, tNot, tAndV, tOrV, tNotV, tIf, tChain, rI0, rI, rU, rEq, rNe, List.map_cons, List.map_nil, List.length_cons, List.length_nil, List.replicate, List.cons_append, List.nil_append, List.append_nil, List.getElem?_cons_zero, List.getElem?_cons_succ, List.set_cons_zero, List.set_cons_succ, Option.some.injEq, exists_eq_left', exists_eq_left, exists_eq_right, V.str.injEq, V.int.injEq, V.bl.injEq, V.ref.injEq, V.ty.injEq, List.cons.injEq, and_true, true_and, exists_and_left, Nat.zero_add, Nat.add_sub_cancel, Nat.sub_self, Nat.succ_sub_succ_eq_sub, Nat.reduceSub, Nat.reduceAdd, Nat.sub_zero, tYes, tSl, tPart, tNoPart, if_true, Bool.false_eq_true, if_false, reduceCtorEq, false_and, exists_false, or_false, false_or, scal, tLc_eq, tFor_eq, iStr, iList, iTup, RZ.iZipA, decide_false, decide_true, tM1, tM0, tDrop, tAug, ipI]
  refine ⟨⟨_, SqL.of h4⟩, ?_⟩
  have hu4 := e4 u _ hu3
  refine lcM (gv := V.str) (goes_list (xs := ((List.range 676).map spareS).map V.str) (small (by simp))) (fun H5 e => ex_l e (SqL.of h4)) (fun y => !decide (y ∈ ws)) (fun y => V.str y) (fun y hy H5 e Q' q' => ?_) (fun y hy _ H5 e Q' q' => ?_) (fun D H5 hD e h5 => ?_) (fun _ => rfl)
  · try simp only [wipe, is_ss, is_si, is_ii, is_ib, is_is, is_bs, is_ns, is_ni, is_nt, Bool.not_false, Bool.not_true, tSeq, tIfS, tRet, tRetN, tNext, tNever, tAsg, gName, tVar, tC, tOp, tUn, tCons, tNil, tCB, tCall, tTest, tB, tAnd, tOr, tNot, tAndV, tOrV, tNotV, tIf, tChain, rI0, rI, rU, rEq, rNe, List.map_cons, List.map_nil, List.length_cons, List.length_nil, List.replicate, List.cons_append, List.nil_append, List.append_nil, List.getElem?_cons_zero, List.getElem?_cons_succ, List.set_cons_zero, List.set_cons_succ, Option.some.injEq, exists_eq_left', exists_eq_left, exists_eq_right, V.str.injEq, V.int.injEq, V.bl.injEq, V.ref.injEq, V.ty.injEq, List.cons.injEq, and_true, true_and, exists_and_left, Nat.zero_add, Nat.add_sub_cancel, Nat.sub_self, Nat.succ_sub_succ_eq_sub, Nat.reduceSub, Nat.reduceAdd, Nat.sub_zero, tYes, tSl, tPart, tNoPart, if_true, Bool.false_eq_true, if_false, reduceCtorEq, false_and, exists_false, or_false, false_or, scal, tLc_eq, tFor_eq, iStr, iList, iTup, RZ.iZipA, decide_false, decide_true, tM1, tM0, tDrop, tAug, ipI]
    refine ninQ (.inl (SqL.of (e u _ hu4))) rfl (flat_strs ws) ⟨_, rfl, ?_⟩
    rw [inV_strs]
    exact q' H5 (Ex.refl _)
  · try simp only [wipe, is_ss, is_si, is_ii, is_ib, is_is, is_bs, is_ns, is_ni, is_nt, Bool.not_false, Bool.not_true, tSeq, tIfS, tRet, tRetN, tNext, tNever, tAsg, gName, tVar, tC, tOp, tUn, tCons, tNil, tCB, tCall, tTest, tB, tAnd, tOr, tNot, tAndV, tOrV, tNotV, tIf, tChain, rI0, rI, rU, rEq, rNe, List.map_cons, List.map_nil, List.length_cons, List.length_nil, List.replicate, List.cons_append, List.nil_append, List.append_nil, List.getElem?_cons_zero, List.getElem?_cons_succ, List.set_cons_zero, List.set_cons_succ, Option.some.injEq, exists_eq_left', exists_eq_left, exists_eq_right, V.str.injEq, V.int.injEq, V.bl.injEq, V.ref.injEq, V.ty.injEq, List.cons.injEq, and_true, true_and, exists_and_left, Nat.zero_add, Nat.add_sub_cancel, Nat.sub_self, Nat.succ_sub_succ_eq_sub, Nat.reduceSub, Nat.reduceAdd, Nat.sub_zero, tYes, tSl, tPart, tNoPart, if_true, Bool.false_eq_true, if_false, reduceCtorEq, false_and, exists_false, or_false, false_or, scal, tLc_eq, tFor_eq, iStr, iList, iTup, RZ.iZipA, decide_false, decide_true, tM1, tM0, tDrop, tAug, ipI]
    exact q' H5 (Ex.refl _)
  have hne2 : ((List.range 676).map spareS).filter (fun y => !decide (y ∈ ws)) ≠ [] := by
    intro z
    have sub : ∀ y ∈ (List.range 676).map spareS, y ∈ ws := fun y hy => by
      have := List.filter_eq_nil_iff.mp z y hy
      simpa using this
    have := pig _ _ spare_nd sub
    rw [List.length_map, List.length_range] at this
    omega
  cases hf : ((List.range 676).map spareS).filter (fun y => !decide (y ∈ ws)) with
  | nil => exact absurd hf hne2
  | cons y r =>
    rw [hf] at h5
    have hyf : y ∈ ((List.range 676).map spareS).filter (fun y => !decide (y ∈ ws)) := by rw [hf]; exact List.mem_cons_self
    have hy := (List.mem_filter.mp hyf).1
    have hyn : y ∉ ws := by simpa using (List.mem_filter.mp hyf).2
    refine ixL (SqL.of h5) at0 (hQ H5 y (d3.then (e4.trans e)) ?_ hyn)
    obtain ⟨i, _, rfl⟩ := List.mem_map.mp hy
    rw [show (spareS i).length = _ from TL.len_tl _, show TL.tl (spareS i) = _ from spare_tl i]
    exact Nat.le_of_ble_eq_true rfl

end K17

-- text K17R3
set_option maxHeartbeats 8000000
namespace K17
open PySem PySem.Spec PyProof.Rows L2 Evl
variable {P : Program} {w : World} {K : PySem.W.Frag} {mg : Str → Option Value} {base : Heap} {d : Ad}
/-! ## the generator: lists of words, mixing, ints -/
def spWords : Sp := fun vs H Q _ => ∃ (p : Addr) (n : Nat), vs = [.ref p, .int n] ∧ Pot H p ∧ n ≤ 100 ∧ ∀ H' l (ws : List Str), Dr p H H' → H l = none → H' l = some (.lst (ws.map V.str)) → ws.length = n → (∀ y ∈ ws, y.length ≤ 10) → ws.Nodup → Q (.ref l) H'
theorem o__law_words (T : Tx w K mg d) (F : Fd K mg "_law_words" s_L_words []) (o__law_word : Ok0 P w K mg base 4 "_law_word" ["_law_pot_here", "_law_used"] spWord) : Ok0 P w K mg base 5 "_law_words" ["_law_pot_here", "_law_number"] spWords := by
  refine mkOk 4 F sc_L_words (fun _ _ _ _ _ _ us hl => match us, hl with | [_, _], _ => rfl) (fun vs H Q E h => by obtain ⟨_, _, rfl, _⟩ := h; rfl) fun f cdv A outer s H vs Q E hr h => ?_
  obtain ⟨p, n, rfl, hp, hn, hQ⟩ := h
  refine ⟨_, PSs.nox (pss_cons (ps_set (i := 2) sc_L_words.nd rfl (.inl rfl) (pe_lst pa_nil))
    (pss_cons (ps_for PassesOwn.never rfl (pi_range1 (by rfl) T.b_range (pa_cons (pv 1) pa_nil)) (pg_name (i := 3) sc_L_words.nd rfl (.inl rfl)) (pss_one (ps_expr (pe_bm PySem.F.plainAttrs_list PySem.F.slot_list_append PySem.F.type_list_append mt_append (pv 2) (pa_cons (pe_c o__law_word (hr.mono (by decide)) pass0 (pa_cons (pv 0) (pa_cons (pv 2) pa_nil))) pa_nil)))))
    (pss_one (ps_ret (pv 2))))), ?_⟩
  try simp only [tLst, iRng1, n_L_words, L2.start, cxK, cxW, cxK', cxW', is_ss, is_si, is_ii, is_ib, is_is, is_bs, is_ns, is_ni, is_nt, Bool.not_false, Bool.not_true, tSeq, tIfS, tRet, tRetN, tNext, tNever, tAsg, gName, tVar, tC, tOp, tUn, tCons, tNil, tCB, tCall, tTest, tB, tAnd, tOr, tNot, tAndV, tOrV, tNotV, tIf, tChain, rI0, rI, rU, rEq, rNe, List.map_cons, List.map_nil, List.length_cons, List.length_nil, List.replicate, List.cons_append, List.nil_append, List.append_nil, List.getElem?_cons_zero, List.getElem?_cons_succ, List.set_cons_zero, List.set_cons_succ, Option.some.injEq, exists_eq_left', exists_eq_left, exists_eq_right, V.str.injEq, V.int.injEq, V.bl.injEq, V.ref.injEq, V.ty.injEq, List.cons.injEq, and_true, true_and, exists_and_left, Nat.zero_add, Nat.add_sub_cancel, Nat.sub_self, Nat.succ_sub_succ_eq_sub, Nat.reduceSub, Nat.reduceAdd, Nat.sub_zero, tYes, tSl, tPart, tNoPart, if_true, Bool.false_eq_true, if_false, reduceCtorEq, false_and, exists_false, or_false, false_or, scal, tLc_eq, tFor_eq, iStr, iList, iTup, RZ.iZipA, decide_false, decide_true, tM1, tM0, tDrop, tAug, ipI]
  refine ⟨Nat.zero_le _, fun l hl => ⟨by omega, by omega, ?_⟩⟩
  have e1 : Ex H (upd H l (.lst [])) := Ex.new hl
  have hlp := hp.ne hl
  rw [Int.toNat_natCast]
  obtain ⟨W, hW⟩ : ∃ W : Nat → L2.St → Hp → Prop, ∀ i σ' H', W i σ' H' ↔ ∃ (x : Option V) (ws : List Str), σ' = [some (.ref p), some (.int n), some (.ref l), x] ∧ Dr p H H' ∧ H' l = some (.lst (ws.map V.str)) ∧ ws.length = i ∧ (∀ y ∈ ws, y.length ≤ 10) ∧ ws.Nodup := ⟨_, fun _ _ _ => Iff.rfl⟩
  refine forP (goes_rng (small (by omega))) W ((hW _ _ _).mpr ⟨none, [], rfl, (Dr.refl hp).then e1, upd_same, rfl, (fun y hy => by cases hy), List.nodup_nil⟩) (fun _ _ _ _ => trivial) ?_ ?_
  · intro i σ' H' H2 hi hw e2
    obtain ⟨x, ws, rfl, dr, h1, h2, h3, h4⟩ := (hW _ _ _).mp hw
    have dr2 := dr.then e2
    have h12 := e2 l _ h1
    try simp only [tBM, is_ss, is_si, is_ii, is_ib, is_is, is_bs, is_ns, is_ni, is_nt, Bool.not_false, Bool.not_true, tSeq, tIfS, tRet, tRetN, tNext, tNever, tAsg, gName, tVar, tC, tOp, tUn, tCons, tNil, tCB, tCall, tTest, tB, tAnd, tOr, tNot, tAndV, tOrV, tNotV, tIf, tChain, rI0, rI, rU, rEq, rNe, List.map_cons, List.map_nil, List.length_cons, List.length_nil, List.replicate, List.cons_append, List.nil_append, List.append_nil, List.getElem?_cons_zero, List.getElem?_cons_succ, List.set_cons_zero, List.set_cons_succ, Option.some.injEq, exists_eq_left', exists_eq_left, exists_eq_right, V.str.injEq, V.int.injEq, V.bl.injEq, V.ref.injEq, V.ty.injEq, List.cons.injEq, and_true, true_and, exists_and_left, Nat.zero_add, Nat.add_sub_cancel, Nat.sub_self, Nat.succ_sub_succ_eq_sub, Nat.reduceSub, Nat.reduceAdd, Nat.sub_zero, tYes, tSl, tPart, tNoPart, if_true, Bool.false_eq_true, if_false, reduceCtorEq, false_and, exists_false, or_false, false_or, scal, tLc_eq, tFor_eq, iStr, iList, iTup, RZ.iZipA, decide_false, decide_true, tM1, tM0, tDrop, tAug, ipI]
    refine ⟨tyL (SqL.of h12), p, l, ws, rfl, dr2.pot, hlp, h12, by omega, fun H3 x d3 hx hxw => ?_⟩
    have h13 := d3.ex l _ hlp h12
    refine appQ h13 (small (by rw [List.length_map]; omega)) ((hW _ _ _).mpr ⟨_, ws ++ [x], rfl, (dr2.trans d3).upd hl hlp, ?_, ?_, ?_, ?_⟩)
    · rw [upd_same, List.map_append]
      rfl
    · rw [List.length_append, h2]; rfl
    · intro y hy
      rcases List.mem_append.mp hy with z | z
      · exact h3 y z
      · rw [List.mem_singleton.mp z]; exact hx
    · refine List.nodup_append.mpr ⟨h4, List.nodup_cons.mpr ⟨by simp, List.nodup_nil⟩, fun a ha b hb => ?_⟩
      rw [List.mem_singleton.mp hb]
      exact fun z => hxw (by rw [← z]; exact ha)
  · intro σ' H' hw
    obtain ⟨x, ws, rfl, dr, h1, h2, h3, h4⟩ := (hW _ _ _).mp hw
    try simp only [is_ss, is_si, is_ii, is_ib, is_is, is_bs, is_ns, is_ni, is_nt, Bool.not_false, Bool.not_true, tSeq, tIfS, tRet, tRetN, tNext, tNever, tAsg, gName, tVar, tC, tOp, tUn, tCons, tNil, tCB, tCall, tTest, tB, tAnd, tOr, tNot, tAndV, tOrV, tNotV, tIf, tChain, rI0, rI, rU, rEq, rNe, List.map_cons, List.map_nil, List.length_cons, List.length_nil, List.replicate, List.cons_append, List.nil_append, List.append_nil, List.getElem?_cons_zero, List.getElem?_cons_succ, List.set_cons_zero, List.set_cons_succ, Option.some.injEq, exists_eq_left', exists_eq_left, exists_eq_right, V.str.injEq, V.int.injEq, V.bl.injEq, V.ref.injEq, V.ty.injEq, List.cons.injEq, and_true, true_and, exists_and_left, Nat.zero_add, Nat.add_sub_cancel, Nat.sub_self, Nat.succ_sub_succ_eq_sub, Nat.reduceSub, Nat.reduceAdd, Nat.sub_zero, tYes, tSl, tPart, tNoPart, if_true, Bool.false_eq_true, if_false, reduceCtorEq, false_and, exists_false, or_false, false_or, scal, tLc_eq, tFor_eq, iStr, iList, iTup, RZ.iZipA, decide_false, decide_true, tM1, tM0, tDrop, tAug, ipI]
    exact hQ H' l ws dr hl h1 h2 h3 h4
theorem erase_map {α β : Type} (f : α → β) : ∀ (l : List α) (k : Nat), (l.map f).eraseIdx k = (l.eraseIdx k).map f
  | [], _ => rfl
  | a :: l, 0 => rfl
  | a :: l, k + 1 => by
    show f a :: (l.map f).eraseIdx k = f a :: (l.eraseIdx k).map f
    rw [erase_map f l k]
theorem erase_perm {α : Type} : ∀ {l : List α} {k : Nat} (h : k < l.length), List.Perm (l[k] :: l.eraseIdx k) l
  | a :: l, 0, _ => List.Perm.refl _
  | a :: l, k + 1, h => by
    have hk : k < l.length := by simpa using h
    have q := erase_perm (l := l) (k := k) hk
    exact (List.Perm.swap a l[k] (l.eraseIdx k)).trans (q.cons a)
def spMixed : Sp := fun vs H Q _ => ∃ (p a : Addr) (ws : List Str), vs = [.ref p, .ref a] ∧ Pot H p ∧ H a = some (.lst (ws.map V.str)) ∧ ws.length ≤ 100 ∧ ∀ H' l (ys : List Str), Dr p H H' → H l = none → H' l = some (.lst (ys.map V.str)) → List.Perm ys ws → Q (.ref l) H'
theorem o__law_mixed (T : Tx w K mg d) (F : Fd K mg "_law_mixed" s_L_mixed []) (o__law_draw : Ok0 P w K mg base 3 "_law_draw" ["_law_pot_here", "_law_bound"] spDraw) : Ok0 P w K mg base 4 "_law_mixed" ["_law_pot_here", "_law_options"] spMixed := by
  refine mkOk 3 F sc_L_mixed (fun _ _ _ _ _ _ us hl => match us, hl with | [_, _], _ => rfl) (fun vs H Q E h => by obtain ⟨_, _, _, rfl, _⟩ := h; rfl) fun f cdv A outer s H vs Q E hr h => ?_
  obtain ⟨p, a, ws, rfl, hp, ha, hz, hQ⟩ := h
  refine ⟨_, PSs.nox (pss_cons (ps_par (i := 2) (j := 3) rfl sc_L_mixed.nd rfl rfl (by decide) rfl rfl (pa_cons (pe_callTy call_list_of (by rfl) T.b_list (by decide +kernel) (pa_cons (pv 1) pa_nil)) (pa_cons (pe_lst pa_nil) pa_nil)) rfl)
    (pss_cons (ps_while PassesOwn.never (pt_cmpR (op_neE hr.units0) (pv 2) (pe_lst pa_nil) (nomark _)) (pss_one (ps_expr (pe_bm PySem.F.plainAttrs_list PySem.F.slot_list_append PySem.F.type_list_append mt_append (pv 3) (pa_cons (pe_bm PySem.F.plainAttrs_list PySem.F.slot_list_pop PySem.F.type_list_pop mt_popAt (pv 2) (pa_cons (pe_c o__law_draw (hr.mono (by decide)) pass0 (pa_cons (pv 0) (pa_cons (pe_callB call_len_seq (by rfl) T.b_len (by decide +kernel) (pa_cons (pv 2) pa_nil)) pa_nil))) pa_nil)) pa_nil)))))
    (pss_one (ps_ret (pv 3))))), ?_⟩
  try simp only [tPar, tLst, n_L_mixed, L2.start, cxK, cxW, cxK', cxW', is_ss, is_si, is_ii, is_ib, is_is, is_bs, is_ns, is_ni, is_nt, Bool.not_false, Bool.not_true, tSeq, tIfS, tRet, tRetN, tNext, tNever, tAsg, gName, tVar, tC, tOp, tUn, tCons, tNil, tCB, tCall, tTest, tB, tAnd, tOr, tNot, tAndV, tOrV, tNotV, tIf, tChain, rI0, rI, rU, rEq, rNe, List.map_cons, List.map_nil, List.length_cons, List.length_nil, List.replicate, List.cons_append, List.nil_append, List.append_nil, List.getElem?_cons_zero, List.getElem?_cons_succ, List.set_cons_zero, List.set_cons_succ, Option.some.injEq, exists_eq_left', exists_eq_left, exists_eq_right, V.str.injEq, V.int.injEq, V.bl.injEq, V.ref.injEq, V.ty.injEq, List.cons.injEq, and_true, true_and, exists_and_left, Nat.zero_add, Nat.add_sub_cancel, Nat.sub_self, Nat.succ_sub_succ_eq_sub, Nat.reduceSub, Nat.reduceAdd, Nat.sub_zero, tYes, tSl, tPart, tNoPart, if_true, Bool.false_eq_true, if_false, reduceCtorEq, false_and, exists_false, or_false, false_or, scal, tLc_eq, tFor_eq, iStr, iList, iTup, RZ.iZipA, decide_false, decide_true, tM1, tM0, tDrop, tAug, ipI]
  refine ⟨_, .inl (SqL.of ha), fun r hr0 => ⟨Nat.zero_le _, fun f0 hf0 => ⟨_, _, ⟨rfl, rfl⟩, ?_⟩⟩⟩
  have hrp := hp.ne hr0
  have hf1 : H f0 = none := fresh_back (Ex.new hr0) hf0
  have hfp := hp.ne hf1
  have hrf : r ≠ f0 := fun z => by rw [z, upd_same] at hf0; cases hf0
  obtain ⟨W, hW⟩ : ∃ W : Nat → L2.St → Hp → Prop, ∀ m σ' H', W m σ' H' ↔ ∃ (zs fs : List Str), σ' = [some (.ref p), some (.ref a), some (.ref r), some (.ref f0)] ∧ Dr p H H' ∧ H' r = some (.lst (zs.map V.str)) ∧ H' f0 = some (.lst (fs.map V.str)) ∧ m = zs.length ∧ List.Perm (fs ++ zs) ws := ⟨_, fun _ _ _ => Iff.rfl⟩
  refine ⟨W, ⟨_, (hW _ _ _).mpr ⟨ws, [], rfl, ((Dr.refl hp).upd hr0 hrp).upd hf1 hfp, by rw [upd_ne hrf, upd_same], upd_same, rfl, List.Perm.refl _⟩⟩, ?_⟩
  intro m σ' H' hw
  obtain ⟨zs, fs, rfl, dr, h1, h2, rfl, hpm⟩ := (hW _ _ _).mp hw
  try simp only [tBM, tLst, is_ss, is_si, is_ii, is_ib, is_is, is_bs, is_ns, is_ni, is_nt, Bool.not_false, Bool.not_true, tSeq, tIfS, tRet, tRetN, tNext, tNever, tAsg, gName, tVar, tC, tOp, tUn, tCons, tNil, tCB, tCall, tTest, tB, tAnd, tOr, tNot, tAndV, tOrV, tNotV, tIf, tChain, rI0, rI, rU, rEq, rNe, List.map_cons, List.map_nil, List.length_cons, List.length_nil, List.replicate, List.cons_append, List.nil_append, List.append_nil, List.getElem?_cons_zero, List.getElem?_cons_succ, List.set_cons_zero, List.set_cons_succ, Option.some.injEq, exists_eq_left', exists_eq_left, exists_eq_right, V.str.injEq, V.int.injEq, V.bl.injEq, V.ref.injEq, V.ty.injEq, List.cons.injEq, and_true, true_and, exists_and_left, Nat.zero_add, Nat.add_sub_cancel, Nat.sub_self, Nat.succ_sub_succ_eq_sub, Nat.reduceSub, Nat.reduceAdd, Nat.sub_zero, tYes, tSl, tPart, tNoPart, if_true, Bool.false_eq_true, if_false, reduceCtorEq, false_and, exists_false, or_false, false_or, scal, tLc_eq, tFor_eq, iStr, iList, iTup, RZ.iZipA, decide_false, decide_true, tM1, tM0, tDrop, tAug, ipI]
  refine ⟨Nat.zero_le _, fun p0 hp0 => ?_⟩
  have e3 : Ex H' (upd H' p0 (.lst [])) := Ex.new hp0
  have dr3 := dr.then e3
  have h13 := e3 r _ h1
  have h23 := e3 f0 _ h2
  refine ⟨r, p0, _, rfl, rfl, SqL.of h13, SqL.of upd_same, ?_⟩
  generalize upd H' p0 (.lst []) = H3 at dr3 h13 h23
  have hlen := hpm.length_eq
  rw [List.length_append] at hlen
  refine ⟨_, rfl, ?_⟩
  show if (!(zs.map V.str).isEmpty) = true then _ else _
  by_cases hz0 : zs = []
  · subst hz0
    rw [if_neg (by simp)]
    try simp only [is_ss, is_si, is_ii, is_ib, is_is, is_bs, is_ns, is_ni, is_nt, Bool.not_false, Bool.not_true, tSeq, tIfS, tRet, tRetN, tNext, tNever, tAsg, gName, tVar, tC, tOp, tUn, tCons, tNil, tCB, tCall, tTest, tB, tAnd, tOr, tNot, tAndV, tOrV, tNotV, tIf, tChain, rI0, rI, rU, rEq, rNe, List.map_cons, List.map_nil, List.length_cons, List.length_nil, List.replicate, List.cons_append, List.nil_append, List.append_nil, List.getElem?_cons_zero, List.getElem?_cons_succ, List.set_cons_zero, List.set_cons_succ, Option.some.injEq, exists_eq_left', exists_eq_left, exists_eq_right, V.str.injEq, V.int.injEq, V.bl.injEq, V.ref.injEq, V.ty.injEq, List.cons.injEq, and_true, true_and, exists_and_left, Nat.zero_add, Nat.add_sub_cancel, Nat.sub_self, Nat.succ_sub_succ_eq_sub, Nat.reduceSub, Nat.reduceAdd, Nat.sub_zero, tYes, tSl, tPart, tNoPart, if_true, Bool.false_eq_true, if_false, reduceCtorEq, false_and, exists_false, or_false, false_or, scal, tLc_eq, tFor_eq, iStr, iList, iTup, RZ.iZipA, decide_false, decide_true, tM1, tM0, tDrop, tAug, ipI]
    rw [List.append_nil] at hpm
    exact hQ H3 f0 fs dr3 hf1 h23 hpm
  · rw [if_pos (by simpa using hz0)]
    have hzl : 0 < zs.length := List.length_pos_iff.mpr hz0
    refine ⟨fun σ2 H2 => ∃ m', m' < zs.length ∧ W m' σ2 H2, fun σ2 H2 h => h, ?_⟩
    refine ⟨tyL (SqL.of h23), tyL (SqL.of h13), _, .inl (SqL.of h13), p, _, rfl, dr3.pot, by rw [List.length_map]; omega, by rw [List.length_map]; omega, fun H4 i d4 i0 i1 => ?_⟩
    rw [List.length_map] at i1
    have h14 := d4.ex r _ hrp h13
    have h24 := d4.ex f0 _ hfp h23
    obtain ⟨k, rfl⟩ : ∃ k : Nat, i = (k : Int) := ⟨i.toNat, by omega⟩
    have hk : k < zs.length := by omega
    have hsi : seqIndex? (k : Int) (zs.map V.str).length = some k := by
      rw [List.length_map]
      unfold seqIndex?
      show (if (decide ((0 : Int) ≤ (if (k : Int) < 0 then (k : Int) + (zs.length : Int) else (k : Int))) && decide ((if (k : Int) < 0 then (k : Int) + (zs.length : Int) else (k : Int)) < (zs.length : Int))) = true then some (if (k : Int) < 0 then (k : Int) + (zs.length : Int) else (k : Int)).toNat else none) = some k
      rw [if_neg (show ¬ (k : Int) < 0 by omega), decide_eq_true (show (0 : Int) ≤ (k : Int) by omega), decide_eq_true (show (k : Int) < (zs.length : Int) by omega), Bool.true_and, if_pos rfl, Int.toNat_natCast]
    refine ⟨r, _, k, k, .str zs[k], rfl, rfl, h14, by omega, by omega, hsi, by simp [hk], ?_⟩
    have dr4 := dr3.trans d4
    have h25 : upd H4 r (.lst ((zs.map V.str).eraseIdx k)) f0 = some (.lst (fs.map V.str)) := by rw [upd_ne hrf.symm]; exact h24
    refine appQ h25 (small (by rw [List.length_map]; omega)) ⟨zs.length - 1, by omega, (hW _ _ _).mpr ⟨zs.eraseIdx k, fs ++ [zs[k]], rfl, (dr4.upd hr0 hrp).upd hf1 hfp, ?_, ?_, ?_, ?_⟩⟩
    · rw [upd_ne hrf, upd_same, erase_map]
    · rw [upd_same, List.map_append]; rfl
    · rw [List.length_eraseIdx_of_lt hk]
    · rw [List.append_assoc]
      exact (List.Perm.append_left fs (erase_perm hk)).trans hpm
def spInt : Sp := fun vs H Q _ => ∃ p : Addr, vs = [.ref p] ∧ Pot H p ∧ ∀ H' n, Dr p H H' → n.natAbs < 10 ^ 31 → Q (.int n) H'
theorem o__law_integer (T : Tx w K mg d) (F : Fd K mg "_law_integer" s_L_integer []) (o__law_draw : Ok0 P w K mg base 3 "_law_draw" ["_law_pot_here", "_law_bound"] spDraw) : Ok0 P w K mg base 4 "_law_integer" ["_law_pot_here"] spInt := by
  refine mkOk 3 F sc_L_integer (fun _ _ _ _ _ _ us hl => match us, hl with | [_], _ => rfl) (fun vs H Q E h => by obtain ⟨_, rfl, _⟩ := h; rfl) fun f cdv A outer s H vs Q E hr h => ?_
  obtain ⟨p, rfl, hp, hQ⟩ := h
  refine ⟨_, PSs.nox (pss_one (ps_ret (pe_ix ix_list (pe_lst (pa_cons (pe_op op_sub (pe_c o__law_draw (hr.mono (by decide)) pass0 (pa_cons (pv 0) (pa_cons pe_int pa_nil))) pe_int) (pa_cons (pe_op op_add (pe_op op_sub (pe_c o__law_draw (hr.mono (by decide)) pass0 (pa_cons (pv 0) (pa_cons (pe_op op_sub (pe_op op_mul pe_int (pe_op op_pow pe_int pe_int)) pe_int) pa_nil))) (pe_op op_pow pe_int pe_int)) pe_int) pa_nil))) (pe_callTy call_int1 (by rfl) T.b_int (by decide +kernel) (pa_cons (pe_cmpR op_eq (pe_c o__law_draw (hr.mono (by decide)) pass0 (pa_cons (pv 0) (pa_cons pe_int pa_nil))) pe_int (nomark _)) pa_nil)) (fun _ _ => rfl)))), ?_⟩
  try simp only [tLst, n_L_integer, L2.start, cxK, cxW, cxK', cxW', is_ss, is_si, is_ii, is_ib, is_is, is_bs, is_ns, is_ni, is_nt, Bool.not_false, Bool.not_true, tSeq, tIfS, tRet, tRetN, tNext, tNever, tAsg, gName, tVar, tC, tOp, tUn, tCons, tNil, tCB, tCall, tTest, tB, tAnd, tOr, tNot, tAndV, tOrV, tNotV, tIf, tChain, rI0, rI, rU, rEq, rNe, List.map_cons, List.map_nil, List.length_cons, List.length_nil, List.replicate, List.cons_append, List.nil_append, List.append_nil, List.getElem?_cons_zero, List.getElem?_cons_succ, List.set_cons_zero, List.set_cons_succ, Option.some.injEq, exists_eq_left', exists_eq_left, exists_eq_right, V.str.injEq, V.int.injEq, V.bl.injEq, V.ref.injEq, V.ty.injEq, List.cons.injEq, and_true, true_and, exists_and_left, Nat.zero_add, Nat.add_sub_cancel, Nat.sub_self, Nat.succ_sub_succ_eq_sub, Nat.reduceSub, Nat.reduceAdd, Nat.sub_zero, tYes, tSl, tPart, tNoPart, if_true, Bool.false_eq_true, if_false, reduceCtorEq, false_and, exists_false, or_false, false_or, scal, tLc_eq, tFor_eq, iStr, iList, iTup, RZ.iZipA, decide_false, decide_true, tM1, tM0, tDrop, tAug, ipI]
  refine ⟨p, 5, rfl, hp, by decide, by decide, fun H1 i d1 i0 i1 => ⟨i, rfl, ⟨by decide, by decide, by decide⟩, .inl ⟨by decide, by decide⟩, ?_⟩⟩
  have e30 : (10 : Int) ^ Int.toNat 30 = 1000000000000000000000000000000 := by decide +kernel
  rw [e30]
  refine ⟨p, _, rfl, d1.pot, by decide, by decide, fun H2 j d2 j0 j1 => ⟨⟨by decide, by decide, by decide⟩, j, rfl, Nat.le_of_ble_eq_true rfl, fun q hq => ?_⟩⟩
  have e3 : Ex H2 (upd H2 q (.lst [V.int (i - 2), V.int (j - 1000000000000000000000000000000 + 1)])) := Ex.new hq
  refine ⟨p, 8, rfl, d2.pot.ex e3, by decide, by decide, fun H4 k d4 k0 k1 => ?_⟩
  have h4 := d4.ex q _ (d2.pot.ne hq) upd_same
  have dr := ((d1.trans d2).then e3).trans d4
  refine ⟨rfl, ?_⟩
  try simp only [is_ss, is_si, is_ii, is_ib, is_is, is_bs, is_ns, is_ni, is_nt, Bool.not_false, Bool.not_true, tSeq, tIfS, tRet, tRetN, tNext, tNever, tAsg, gName, tVar, tC, tOp, tUn, tCons, tNil, tCB, tCall, tTest, tB, tAnd, tOr, tNot, tAndV, tOrV, tNotV, tIf, tChain, rI0, rI, rU, rEq, rNe, List.map_cons, List.map_nil, List.length_cons, List.length_nil, List.replicate, List.cons_append, List.nil_append, List.append_nil, List.getElem?_cons_zero, List.getElem?_cons_succ, List.set_cons_zero, List.set_cons_succ, Option.some.injEq, exists_eq_left', exists_eq_left, exists_eq_right, V.str.injEq, V.int.injEq, V.bl.injEq, V.ref.injEq, V.ty.injEq, List.cons.injEq, and_true, true_and, exists_and_left, Nat.zero_add, Nat.add_sub_cancel, Nat.sub_self, Nat.succ_sub_succ_eq_sub, Nat.reduceSub, Nat.reduceAdd, Nat.sub_zero, tYes, tSl, tPart, tNoPart, if_true, Bool.false_eq_true, if_false, reduceCtorEq, false_and, exists_false, or_false, false_or, scal, tLc_eq, tFor_eq, iStr, iList, iTup, RZ.iZipA, decide_false, decide_true, tM1, tM0, tDrop, tAug, ipI]
  by_cases hk : k = 0
  · rw [if_pos (decide_eq_true hk)]
    exact ixL (SqL.of h4) (atN (i := 1) rfl) (hQ H4 _ dr (by omega))
  · rw [if_neg (by rw [decide_eq_true_eq]; exact hk)]
    exact ixL (SqL.of h4) at0 (hQ H4 _ dr (by omega))

end K17

-- text K17R4
set_option maxHeartbeats 8000000
namespace K17
open PySem PySem.Spec PyProof.Rows L2 Evl
variable {P : Program} {w : World} {K : PySem.W.Frag} {mg : Str → Option Value} {base : Heap} {d : Ad}
/-! ## the generator: steps -/
def PartV (v : V) : Prop := (∃ x : Str, v = .str x ∧ x.length ≤ 10) ∨ ∃ n : Int, v = .int n ∧ n.natAbs < 10 ^ 31
structure StepV (t : List V) : Prop where
  word : ∃ (wd : Str) (r : List V), t = .str wd :: r ∧ (wd ∈ [Str.ofString "need", Str.ofString "try"] → ∃ (m : Str) (r2 : List V), r = .str m :: r2 ∧ m.length ≤ 10)
  few : t.length ≤ 4
  part : ∀ v ∈ t, PartV v
theorem part_str {x : Str} (h : x.length ≤ 10) : PartV (.str x) := .inl ⟨x, rfl, h⟩
theorem part_one {c : Nat} : PartV (.str ⟨#[c]⟩) := .inl ⟨_, rfl, by show 1 ≤ 10; decide⟩
theorem part_int {n : Int} (h : n.natAbs < 10 ^ 31) : PartV (.int n) := .inr ⟨n, rfl, h⟩
theorem step_mk {wd : Str} {r : List V} (hw : wd.length ≤ 10) (hn : wd ∈ [Str.ofString "need", Str.ofString "try"] → ∃ (m : Str) (r2 : List V), r = .str m :: r2 ∧ m.length ≤ 10) (hl : r.length ≤ 3) (hp : ∀ v ∈ r, PartV v) : StepV (.str wd :: r) :=
  ⟨⟨wd, r, rfl, hn⟩, by rw [List.length_cons]; omega, fun v hv => by
    rcases List.mem_cons.mp hv with e | e
    · rw [e]; exact part_str hw
    · exact hp v e⟩
theorem abcd_ok : 0 < (Str.ofString "abcd").length ∧ (Str.ofString "abcd").length ≤ 100 := by decide +kernel
def spLocal : Sp := fun vs H Q _ => ∃ (p lb : Addr) (room : Int) (ls : List Str), vs = [.ref p, .int room, .ref lb, .bl false] ∧ Pot H p ∧ room < 2 ^ 100 ∧ lb ≠ p ∧ H lb = some (.lst (ls.map V.str)) ∧ 0 < ls.length ∧ ls.length ≤ 100 ∧ (∀ y ∈ ls, y.length ≤ 10) ∧
  ∀ H' a t, Dr p H H' → H' a = some (.tup t) → StepV t → Q (.ref a) H'
theorem o__law_local_step (T : Tx w K mg d) (F : Fd K mg "_law_local_step" s_L_local_step []) (o__law_draw : Ok0 P w K mg base 3 "_law_draw" ["_law_pot_here", "_law_bound"] spDraw) (o__law_choice : Ok0 P w K mg base 4 "_law_choice" ["_law_pot_here", "_law_options"] (spChoice K)) (o__law_integer : Ok0 P w K mg base 4 "_law_integer" ["_law_pot_here"] spInt) :
    Ok0 P w K mg base 5 "_law_local_step" ["_law_pot_here", "_law_room", "_law_labels", "_law_is_main"] spLocal := by
  refine mkOk 4 F sc_L_local_step (fun _ _ _ _ _ _ us hl => match us, hl with | [_, _, _, _], _ => rfl) (fun vs H Q E h => by obtain ⟨_, _, _, _, rfl, _⟩ := h; rfl) fun f cdv A outer s H vs Q E hr h => ?_
  obtain ⟨p, lb, room, ls, rfl, hp, hroom, hne, hlb, hl0, hl1, hls, hQ⟩ := h
  refine ⟨_, PSs.nox (pss_cut (ps_set (i := 4) sc_L_local_step.nd rfl (.inl rfl) (pe_ix ix_list (pe_lst (pa_cons pe_str (pa_cons pe_str (pa_cons pe_str (pa_cons pe_str (pa_cons pe_str (pa_cons pe_str pa_nil))))))) (pe_c o__law_draw (hr.mono (by decide)) pass0 (pa_cons (pv 0) (pa_cons (pe_ifExp (pt_val (pv 3)) pe_int pe_int) pa_nil))) (fun _ _ => rfl)))
    (pss_cut (ps_par (i := 5) (j := 6) rfl sc_L_local_step.nd rfl rfl (by decide) rfl rfl (pa_cons (pe_c o__law_choice (hr.mono (by decide)) pass0 (pa_cons (pv 0) (pa_cons pe_str pa_nil))) (pa_cons (pe_c o__law_choice (hr.mono (by decide)) pass0 (pa_cons (pv 0) (pa_cons pe_str pa_nil))) pa_nil)) rfl)
    (pss_cons (ps_if (PW.pt (pw_or (pt_cmpR op_eq (pv 4) pe_str (nomark _)) (pw_or1 (PW.pt (pw_and (pt_cmpR op_eq (pv 4) pe_str (nomark _)) (pw_and1 (pt_cmpR op_lt (pv 1) pe_int (nomark _)))))))) (pss_one (ps_ret (pe_tup (pa_cons pe_str (pa_cons (pv 5) (pa_cons (pe_c o__law_integer (hr.mono (by decide)) pass0 (pa_cons (pv 0) pa_nil)) pa_nil)))))) pss_nil)
    (pss_cons (ps_if (pt_cmpR op_eq (pv 4) pe_str (nomark _)) (pss_one (ps_ret (pe_tup (pa_cons pe_str (pa_cons (pv 5) (pa_cons (pv 6) pa_nil)))))) pss_nil)
    (pss_one (ps_ret (pe_ifExp (pt_cmpR op_eq (pv 4) pe_str (nomark _)) (pe_tup (pa_cons pe_str (pa_cons (pv 5) (pa_cons (pe_op op_add pe_int (pe_c o__law_draw (hr.mono (by decide)) pass0 (pa_cons (pv 0) (pa_cons (pv 1) pa_nil)))) pa_nil)))) (pe_tup (pa_cons pe_str (pa_cons (pe_c o__law_choice (hr.mono (by decide)) pass0 (pa_cons (pv 0) (pa_cons (pv 2) pa_nil))) (pa_cons (pv 5) pa_nil))))))))))), ?_⟩
  try simp only [tLst, tPar, n_L_local_step, L2.start, cxK, cxW, cxK', cxW', is_ss, is_si, is_ii, is_ib, is_is, is_bs, is_ns, is_ni, is_nt, Bool.not_false, Bool.not_true, tSeq, tIfS, tRet, tRetN, tNext, tNever, tAsg, gName, tVar, tC, tOp, tUn, tCons, tNil, tCB, tCall, tTest, tB, tAnd, tOr, tNot, tAndV, tOrV, tNotV, tIf, tChain, rI0, rI, rU, rEq, rNe, List.map_cons, List.map_nil, List.length_cons, List.length_nil, List.replicate, List.cons_append, List.nil_append, List.append_nil, List.getElem?_cons_zero, List.getElem?_cons_succ, List.set_cons_zero, List.set_cons_succ, Option.some.injEq, exists_eq_left', exists_eq_left, exists_eq_right, V.str.injEq, V.int.injEq, V.bl.injEq, V.ref.injEq, V.ty.injEq, List.cons.injEq, and_true, true_and, exists_and_left, Nat.zero_add, Nat.add_sub_cancel, Nat.sub_self, Nat.succ_sub_succ_eq_sub, Nat.reduceSub, Nat.reduceAdd, Nat.sub_zero, tYes, tSl, tPart, tNoPart, if_true, Bool.false_eq_true, if_false, reduceCtorEq, false_and, exists_false, or_false, false_or, scal, tLc_eq, tFor_eq, iStr, iList, iTup, RZ.iZipA, decide_false, decide_true, tM1, tM0, tDrop, tAug, ipI]
  -- the word
  refine ⟨fun σ' H' => ∃ wd : Str, σ' = [some (.ref p), some (.int room), some (.ref lb), some (.bl false), some (.str wd), none, none] ∧ Dr p H H' ∧ wd ∈ [Str.ofString "set", Str.ofString "set", Str.ofString "add", Str.ofString "skip", Str.ofString "export", Str.ofString "export"], ?_, ?_⟩
  · try simp only [tLst, is_ss, is_si, is_ii, is_ib, is_is, is_bs, is_ns, is_ni, is_nt, Bool.not_false, Bool.not_true, tSeq, tIfS, tRet, tRetN, tNext, tNever, tAsg, gName, tVar, tC, tOp, tUn, tCons, tNil, tCB, tCall, tTest, tB, tAnd, tOr, tNot, tAndV, tOrV, tNotV, tIf, tChain, rI0, rI, rU, rEq, rNe, List.map_cons, List.map_nil, List.length_cons, List.length_nil, List.replicate, List.cons_append, List.nil_append, List.append_nil, List.getElem?_cons_zero, List.getElem?_cons_succ, List.set_cons_zero, List.set_cons_succ, Option.some.injEq, exists_eq_left', exists_eq_left, exists_eq_right, V.str.injEq, V.int.injEq, V.bl.injEq, V.ref.injEq, V.ty.injEq, List.cons.injEq, and_true, true_and, exists_and_left, Nat.zero_add, Nat.add_sub_cancel, Nat.sub_self, Nat.succ_sub_succ_eq_sub, Nat.reduceSub, Nat.reduceAdd, Nat.sub_zero, tYes, tSl, tPart, tNoPart, if_true, Bool.false_eq_true, if_false, reduceCtorEq, false_and, exists_false, or_false, false_or, scal, tLc_eq, tFor_eq, iStr, iList, iTup, RZ.iZipA, decide_false, decide_true, tM1, tM0, tDrop, tAug, ipI]
    refine ⟨Nat.le_of_ble_eq_true rfl, fun q hq => ?_⟩
    generalize hL : [V.str (Str.ofString "set"), V.str (Str.ofString "set"), V.str (Str.ofString "add"), V.str (Str.ofString "skip"), V.str (Str.ofString "export"), V.str (Str.ofString "export")] = L
    have e1 : Ex H (upd H q (.lst L)) := Ex.new hq
    refine ⟨p, 6, rfl, hp.ex e1, by decide, by decide, fun H2 k d2 k0 k1 => ?_⟩
    have h2 := d2.ex q _ (hp.ne hq) upd_same
    obtain ⟨z, hz, hm⟩ := atI_some (xs := L) k0 (by rw [← hL]; exact k1)
    refine ixL (SqL.of h2) hz ?_
    rw [← hL] at hm
    obtain ⟨wd, hwd, rfl⟩ := List.mem_map.mp (show z ∈ [Str.ofString "set", Str.ofString "set", Str.ofString "add", Str.ofString "skip", Str.ofString "export", Str.ofString "export"].map V.str from hm)
    exact ⟨wd, rfl, Dr.after e1 d2, hwd⟩
  rintro σ' H1 ⟨wd, rfl, d1, hwd⟩
  have hw10 : wd.length ≤ 10 := by
    have key : ∀ y ∈ [Str.ofString "set", Str.ofString "set", Str.ofString "add", Str.ofString "skip", Str.ofString "export", Str.ofString "export"], y.length ≤ 10 := by decide +kernel
    exact key wd hwd
  refine ⟨fun σ' H' => ∃ x y : Nat, σ' = [some (.ref p), some (.int room), some (.ref lb), some (.bl false), some (.str wd), some (.str ⟨#[x]⟩), some (.str ⟨#[y]⟩)] ∧ Dr p H H', ?_, ?_⟩
  · try simp only [tPar, is_ss, is_si, is_ii, is_ib, is_is, is_bs, is_ns, is_ni, is_nt, Bool.not_false, Bool.not_true, tSeq, tIfS, tRet, tRetN, tNext, tNever, tAsg, gName, tVar, tC, tOp, tUn, tCons, tNil, tCB, tCall, tTest, tB, tAnd, tOr, tNot, tAndV, tOrV, tNotV, tIf, tChain, rI0, rI, rU, rEq, rNe, List.map_cons, List.map_nil, List.length_cons, List.length_nil, List.replicate, List.cons_append, List.nil_append, List.append_nil, List.getElem?_cons_zero, List.getElem?_cons_succ, List.set_cons_zero, List.set_cons_succ, Option.some.injEq, exists_eq_left', exists_eq_left, exists_eq_right, V.str.injEq, V.int.injEq, V.bl.injEq, V.ref.injEq, V.ty.injEq, List.cons.injEq, and_true, true_and, exists_and_left, Nat.zero_add, Nat.add_sub_cancel, Nat.sub_self, Nat.succ_sub_succ_eq_sub, Nat.reduceSub, Nat.reduceAdd, Nat.sub_zero, tYes, tSl, tPart, tNoPart, if_true, Bool.false_eq_true, if_false, reduceCtorEq, false_and, exists_false, or_false, false_or, scal, tLc_eq, tFor_eq, iStr, iList, iTup, RZ.iZipA, decide_false, decide_true, tM1, tM0, tDrop, tAug, ipI]
    refine ⟨p, _, rfl, d1.pot, .inr ⟨_, rfl, abcd_ok.1, abcd_ok.2, fun H2 x d2 _ => ?_⟩⟩
    refine ⟨p, _, rfl, d2.pot, .inr ⟨_, rfl, abcd_ok.1, abcd_ok.2, fun H3 y d3 _ => ?_⟩⟩
    exact ⟨_, _, ⟨rfl, rfl⟩, x, y, ⟨rfl, rfl⟩, (d1.trans d2).trans d3⟩
  rintro σ' H2 ⟨x, y, rfl, d2⟩
  have hlb2 := d2.ex lb _ hne hlb
  try simp only [tTup, is_ss, is_si, is_ii, is_ib, is_is, is_bs, is_ns, is_ni, is_nt, Bool.not_false, Bool.not_true, tSeq, tIfS, tRet, tRetN, tNext, tNever, tAsg, gName, tVar, tC, tOp, tUn, tCons, tNil, tCB, tCall, tTest, tB, tAnd, tOr, tNot, tAndV, tOrV, tNotV, tIf, tChain, rI0, rI, rU, rEq, rNe, List.map_cons, List.map_nil, List.length_cons, List.length_nil, List.replicate, List.cons_append, List.nil_append, List.append_nil, List.getElem?_cons_zero, List.getElem?_cons_succ, List.set_cons_zero, List.set_cons_succ, Option.some.injEq, exists_eq_left', exists_eq_left, exists_eq_right, V.str.injEq, V.int.injEq, V.bl.injEq, V.ref.injEq, V.ty.injEq, List.cons.injEq, and_true, true_and, exists_and_left, Nat.zero_add, Nat.add_sub_cancel, Nat.sub_self, Nat.succ_sub_succ_eq_sub, Nat.reduceSub, Nat.reduceAdd, Nat.sub_zero, tYes, tSl, tPart, tNoPart, if_true, Bool.false_eq_true, if_false, reduceCtorEq, false_and, exists_false, or_false, false_or, scal, tLc_eq, tFor_eq, iStr, iList, iTup, RZ.iZipA, decide_false, decide_true, tM1, tM0, tDrop, tAug, ipI]
  have nn : ∀ z : Str, z ∈ [Str.ofString "set", Str.ofString "add", Str.ofString "skip", Str.ofString "export"] → z ∉ [Str.ofString "need", Str.ofString "try"] ∧ z.length ≤ 10 := by decide +kernel
  have mk : ∀ (z : Str) (v1 v2 : V) (H' : Hp) (a : Addr), z ∈ [Str.ofString "set", Str.ofString "add", Str.ofString "skip", Str.ofString "export"] → PartV v1 → PartV v2 → Dr p H H' → H' a = none → Q (.ref a) (upd H' a (.tup [V.str z, v1, v2])) := fun z v1 v2 H' a hz h1 h2 dr ha =>
    hQ _ a _ (dr.then (Ex.new ha)) upd_same (step_mk (nn z hz).2 (fun w => absurd w (nn z hz).1) (Nat.le_of_ble_eq_true rfl) fun v hv => by
      rcases List.mem_cons.mp hv with e | e
      · rw [e]; exact h1
      · rw [List.mem_singleton.mp e]; exact h2)
  have three : 3 ≤ sizeLine := Nat.le_of_ble_eq_true rfl
  have goSet : spInt [V.ref p] H2 (fun x_1 H1 => 3 ≤ sizeLine ∧ ∀ (p : Addr), H1 p = none → Q (V.ref p) (upd H1 p (HO.tup [V.str (Str.ofString "set"), V.str ⟨#[x]⟩, x_1]))) E0 :=
    ⟨p, rfl, d2.pot, fun H3 n d3 hn => ⟨three, fun a ha => mk _ _ _ _ _ (by simp) part_one (part_int hn) (d2.trans d3) ha⟩⟩
  have goAdd : 3 ≤ sizeLine ∧ ∀ (p : Addr), H2 p = none → Q (V.ref p) (upd H2 p (HO.tup [V.str (Str.ofString "add"), V.str ⟨#[x]⟩, V.str ⟨#[y]⟩])) :=
    ⟨three, fun a ha => mk _ _ _ _ _ (by simp) part_one part_one d2 ha⟩
  have goSkip : 1 ≤ room → spDraw [V.ref p, V.int room] H2 (fun y H2 => ∃ x_1, y = V.int x_1 ∧ 3 ≤ sizeLine ∧ ∀ (p : Addr), H2 p = none → Q (V.ref p) (upd H2 p (HO.tup [V.str (Str.ofString "skip"), V.str ⟨#[x]⟩, V.int (1 + x_1)]))) E0 := fun h1 =>
    ⟨p, room, rfl, d2.pot, by omega, by omega, fun H3 n d3 n0 n1 => ⟨n, rfl, three, fun a ha => mk _ _ _ _ _ (by simp) part_one (part_int (by omega)) (d2.trans d3) ha⟩⟩
  have goExp : spChoice K [V.ref p, V.ref lb] H2 (fun x_1 H1 => 3 ≤ sizeLine ∧ ∀ (p : Addr), H1 p = none → Q (V.ref p) (upd H1 p (HO.tup [V.str (Str.ofString "export"), x_1, V.str ⟨#[x]⟩]))) E0 :=
    ⟨p, _, rfl, d2.pot, .inl ⟨lb, _, rfl, hne, hlb2, by rw [List.length_map]; exact hl0, by rw [List.length_map]; omega, fun H3 v d3 hv => ⟨three, fun a ha => by
      obtain ⟨s1, hs1, rfl⟩ := List.mem_map.mp hv
      exact mk _ _ _ _ _ (by simp) (part_str (hls s1 hs1)) part_one (d2.trans d3) ha⟩⟩⟩
  by_cases w1 : wd = Str.ofString "set"
  · rw [if_pos (decide_eq_true w1)]
    exact goSet
  rw [if_neg (by rw [decide_eq_true_eq]; exact w1)]
  by_cases w2 : wd = Str.ofString "skip"
  · rw [if_pos (decide_eq_true w2)]
    by_cases hr1 : room < 1
    · rw [if_pos (decide_eq_true hr1)]
      exact goSet
    · rw [if_neg (by rw [decide_eq_true_eq]; exact hr1)]
      rw [if_neg (by rw [decide_eq_true_eq, w2]; decide +kernel), if_pos (decide_eq_true w2)]
      exact goSkip (by omega)
  · rw [if_neg (by rw [decide_eq_true_eq]; exact w2)]
    by_cases w3 : wd = Str.ofString "add"
    · rw [if_pos (decide_eq_true w3)]
      exact goAdd
    · rw [if_neg (by rw [decide_eq_true_eq]; exact w3), if_neg (by rw [decide_eq_true_eq]; exact w2)]
      exact goExp
def tupAt (H : Hp) (e : Addr) : List V := match H e with
  | some (.tup t) => t
  | _ => []
def wordAt : List V → Str
  | .str x :: _ => x
  | _ => Str.ofString ""
def modAt : List V → Str
  | _ :: .str x :: _ => x
  | _ => Str.ofString ""
/-- a list of steps -/
def StepsAt (H : Hp) (a : Addr) (es : List Addr) : Prop := H a = some (.lst (es.map V.ref)) ∧ ∀ e ∈ es, ∃ t, H e = some (.tup t) ∧ StepV t
theorem StepsAt.mono {H H1 : Hp} {a p : Addr} {es : List Addr} (h : StepsAt H a es) (hp : Pot H p) (dr : ExB p H H1) : StepsAt H1 a es := by
  obtain ⟨h1, h2⟩ := h
  obtain ⟨x, y, hq, _⟩ := hp
  refine ⟨dr a _ (fun z => ?_) h1, fun e he => ?_⟩
  · rw [z, hq] at h1
    cases es with
    | nil => cases h1
    | cons b r => injection h1 with h1; injection h1 with h1; injection h1 with h1 _; cases h1
  · obtain ⟨t, q1, q2⟩ := h2 e he
    exact ⟨t, dr e _ (fun z => by rw [z, hq] at q1; cases q1) q1, q2⟩
def spRStep : Sp := fun vs H Q _ => ∃ (p tg lb ea : Addr) (ts ls : List Str) (es : List Addr), vs = [.ref p, .ref tg, .ref lb, .ref ea] ∧ Pot H p ∧ tg ≠ p ∧ lb ≠ p ∧ H tg = some (.lst (ts.map V.str)) ∧ H lb = some (.lst (ls.map V.str)) ∧ 0 < ts.length ∧ ts.length ≤ 100 ∧ 0 < ls.length ∧ ls.length ≤ 100 ∧
  (∀ y ∈ ts, y.length ≤ 10) ∧ (∀ y ∈ ls, y.length ≤ 10) ∧ StepsAt H ea es ∧ es.length ≤ 100 ∧ ∀ H' a t, Dr p H H' → H' a = some (.tup t) → StepV t → Q (.ref a) H'
theorem o__law_read_step (T : Tx w K mg d) (F : Fd K mg "_law_read_step" s_L_read_step []) (o__law_choice : Ok0 P w K mg base 4 "_law_choice" ["_law_pot_here", "_law_options"] (spChoice K)) :
    Ok0 P w K mg base 5 "_law_read_step" ["_law_pot_here", "_law_targets", "_law_labels", "_law_earlier"] spRStep := by
  refine mkOk 4 F sc_L_read_step (fun _ _ _ _ _ _ us hl => match us, hl with | [_, _, _, _], _ => rfl) (fun vs H Q E h => by obtain ⟨_, _, _, _, _, _, _, rfl, _⟩ := h; rfl) fun f cdv A outer s H vs Q E hr h => ?_
  obtain ⟨p, tg, lb, ea, ts, ls, es, rfl, hp, htp, hlp, htg, hlb, ht0, ht1, hl0, hl1, hts, hls, hst, hes, hQ⟩ := h
  refine ⟨_, PSs.nox (pss_cut (ps_setLc (i := 4) (own := [("_law_step", 6)]) rfl sc_L_read_step.nd rfl rfl (sw_true rfl rfl rfl (by decide +kernel)) (pi_list (pv 3)) (blkOk_by (own := [("_law_step", 6)]) (N := n_L_read_step) (sc := defScope s_L_read_step) (by decide +kernel)) (fun _ _ _ _ _ => (pg_name (i := 6) sc_L_read_step.nd rfl (Or.inl rfl))) (fun _ _ _ _ _ => (pts_one (pt_cmpR (op_in_seqB K) (pe_ix (ix_tupB K) (pv 6) pe_int (fun _ _ => rfl)) (pe_tup (pa_cons pe_str (pa_cons pe_str pa_nil))) (by rfl)))) (fun _ _ _ _ _ => (pe_ix (ix_tupB K) (pv 6) pe_int (fun _ _ => rfl))))
    (pss_cons (ps_set (i := 5) sc_L_read_step.nd rfl (.inl rfl) (pe_c o__law_choice (hr.mono (by decide)) pass0 (pa_cons (pv 0) (pa_cons (pe_op op_cat (pe_op op_cat (pe_op op_cat (pv 1) (pv 4)) (pv 4)) (pv 4)) pa_nil))))
    (pss_one (ps_ret (pe_tup (pa_cons pe_str (pa_cons (pe_c o__law_choice (hr.mono (by decide)) pass0 (pa_cons (pv 0) (pa_cons pe_str pa_nil))) (pa_cons (pv 5) (pa_cons (pe_c o__law_choice (hr.mono (by decide)) pass0 (pa_cons (pv 0) (pa_cons (pv 2) pa_nil))) pa_nil))))))))), ?_⟩
  try simp only [n_L_read_step, L2.start, cxK, cxW, cxK', cxW', is_ss, is_si, is_ii, is_ib, is_is, is_bs, is_ns, is_ni, is_nt, Bool.not_false, Bool.not_true, tSeq, tIfS, tRet, tRetN, tNext, tNever, tAsg, gName, tVar, tC, tOp, tUn, tCons, tNil, tCB, tCall, tTest, tB, tAnd, tOr, tNot, tAndV, tOrV, tNotV, tIf, tChain, rI0, rI, rU, rEq, rNe, List.map_cons, List.map_nil, List.length_cons, List.length_nil, List.replicate, List.cons_append, List.nil_append, List.append_nil, List.getElem?_cons_zero, List.getElem?_cons_succ, List.set_cons_zero, List.set_cons_succ, Option.some.injEq, exists_eq_left', exists_eq_left, exists_eq_right, V.str.injEq, V.int.injEq, V.bl.injEq, V.ref.injEq, V.ty.injEq, List.cons.injEq, and_true, true_and, exists_and_left, Nat.zero_add, Nat.add_sub_cancel, Nat.sub_self, Nat.succ_sub_succ_eq_sub, Nat.reduceSub, Nat.reduceAdd, Nat.sub_zero, tYes, tSl, tPart, tNoPart, if_true, Bool.false_eq_true, if_false, reduceCtorEq, false_and, exists_false, or_false, false_or, scal, tLc_eq, tFor_eq, iStr, iList, iTup, RZ.iZipA, decide_false, decide_true, tM1, tM0, tDrop, tAug, ipI]
  have hft : ∀ e ∈ es, H e = some (.tup (tupAt H e)) ∧ StepV (tupAt H e) := fun e he => by
    obtain ⟨t, q1, q2⟩ := hst.2 e he
    have e1 : tupAt H e = t := by unfold tupAt; rw [q1]
    rw [e1]
    exact ⟨q1, q2⟩
  refine ⟨fun σ' H' => ∃ (kn : Addr) (ms : List Str), σ' = [some (.ref p), some (.ref tg), some (.ref lb), some (.ref ea), some (.ref kn), none, none] ∧ Ex H H' ∧ H kn = none ∧ H' kn = some (.lst (ms.map V.str)) ∧ ms.length ≤ 100 ∧ ∀ y ∈ ms, y.length ≤ 10, ?_, ?_⟩
  · try simp only [is_ss, is_si, is_ii, is_ib, is_is, is_bs, is_ns, is_ni, is_nt, Bool.not_false, Bool.not_true, tSeq, tIfS, tRet, tRetN, tNext, tNever, tAsg, gName, tVar, tC, tOp, tUn, tCons, tNil, tCB, tCall, tTest, tB, tAnd, tOr, tNot, tAndV, tOrV, tNotV, tIf, tChain, rI0, rI, rU, rEq, rNe, List.map_cons, List.map_nil, List.length_cons, List.length_nil, List.replicate, List.cons_append, List.nil_append, List.append_nil, List.getElem?_cons_zero, List.getElem?_cons_succ, List.set_cons_zero, List.set_cons_succ, Option.some.injEq, exists_eq_left', exists_eq_left, exists_eq_right, V.str.injEq, V.int.injEq, V.bl.injEq, V.ref.injEq, V.ty.injEq, List.cons.injEq, and_true, true_and, exists_and_left, Nat.zero_add, Nat.add_sub_cancel, Nat.sub_self, Nat.succ_sub_succ_eq_sub, Nat.reduceSub, Nat.reduceAdd, Nat.sub_zero, tYes, tSl, tPart, tNoPart, if_true, Bool.false_eq_true, if_false, reduceCtorEq, false_and, exists_false, or_false, false_or, scal, tLc_eq, tFor_eq, iStr, iList, iTup, RZ.iZipA, decide_false, decide_true, tM1, tM0, tDrop, tAug, ipI]
    refine ⟨⟨_, SqL.of hst.1⟩, ?_⟩
    refine lcM (gv := V.ref) (goes_list (xs := es.map V.ref) (small (by rw [List.length_map]; omega))) (fun H3 e => ex_l e (SqL.of hst.1)) (fun e => decide (wordAt (tupAt H e) ∈ [Str.ofString "need", Str.ofString "try"])) (fun e => V.str (modAt (tupAt H e))) (fun e he H3 e3 Q' q' => ?_) (fun e he hf H3 e3 Q' q' => ?_) (fun D H3 hD e3 h3 => ?_) (fun _ => rfl)
    · obtain ⟨h1, h2⟩ := hft e he
      obtain ⟨wd, r, et, hw⟩ := h2.word
      rw [et] at h1 q'
      try simp only [wipe, tTup, is_ss, is_si, is_ii, is_ib, is_is, is_bs, is_ns, is_ni, is_nt, Bool.not_false, Bool.not_true, tSeq, tIfS, tRet, tRetN, tNext, tNever, tAsg, gName, tVar, tC, tOp, tUn, tCons, tNil, tCB, tCall, tTest, tB, tAnd, tOr, tNot, tAndV, tOrV, tNotV, tIf, tChain, rI0, rI, rU, rEq, rNe, List.map_cons, List.map_nil, List.length_cons, List.length_nil, List.replicate, List.cons_append, List.nil_append, List.append_nil, List.getElem?_cons_zero, List.getElem?_cons_succ, List.set_cons_zero, List.set_cons_succ, Option.some.injEq, exists_eq_left', exists_eq_left, exists_eq_right, V.str.injEq, V.int.injEq, V.bl.injEq, V.ref.injEq, V.ty.injEq, List.cons.injEq, and_true, true_and, exists_and_left, Nat.zero_add, Nat.add_sub_cancel, Nat.sub_self, Nat.succ_sub_succ_eq_sub, Nat.reduceSub, Nat.reduceAdd, Nat.sub_zero, tYes, tSl, tPart, tNoPart, if_true, Bool.false_eq_true, if_false, reduceCtorEq, false_and, exists_false, or_false, false_or, scal, tLc_eq, tFor_eq, iStr, iList, iTup, RZ.iZipA, decide_false, decide_true, tM1, tM0, tDrop, tAug, ipI]
      refine ixT (SqT.of (e3 e _ h1)) at0 ⟨Nat.le_of_ble_eq_true rfl, fun tp htp => ?_⟩
      refine inQ (.inr (SqT.of upd_same)) rfl rfl ⟨_, rfl, ?_⟩
      rw [show inV (V.str wd) [V.str (Str.ofString "need"), V.str (Str.ofString "try")] = decide (wd ∈ [Str.ofString "need", Str.ofString "try"]) from inV_strs _ [Str.ofString "need", Str.ofString "try"]]
      exact q' _ (Ex.new htp)
    · obtain ⟨h1, h2⟩ := hft e he
      obtain ⟨wd, r, et, hw⟩ := h2.word
      rw [et] at h1 hf q'
      obtain ⟨m, r2, rfl, hm⟩ := hw (of_decide_eq_true hf)
      try simp only [wipe, tTup, is_ss, is_si, is_ii, is_ib, is_is, is_bs, is_ns, is_ni, is_nt, Bool.not_false, Bool.not_true, tSeq, tIfS, tRet, tRetN, tNext, tNever, tAsg, gName, tVar, tC, tOp, tUn, tCons, tNil, tCB, tCall, tTest, tB, tAnd, tOr, tNot, tAndV, tOrV, tNotV, tIf, tChain, rI0, rI, rU, rEq, rNe, List.map_cons, List.map_nil, List.length_cons, List.length_nil, List.replicate, List.cons_append, List.nil_append, List.append_nil, List.getElem?_cons_zero, List.getElem?_cons_succ, List.set_cons_zero, List.set_cons_succ, Option.some.injEq, exists_eq_left', exists_eq_left, exists_eq_right, V.str.injEq, V.int.injEq, V.bl.injEq, V.ref.injEq, V.ty.injEq, List.cons.injEq, and_true, true_and, exists_and_left, Nat.zero_add, Nat.add_sub_cancel, Nat.sub_self, Nat.succ_sub_succ_eq_sub, Nat.reduceSub, Nat.reduceAdd, Nat.sub_zero, tYes, tSl, tPart, tNoPart, if_true, Bool.false_eq_true, if_false, reduceCtorEq, false_and, exists_false, or_false, false_or, scal, tLc_eq, tFor_eq, iStr, iList, iTup, RZ.iZipA, decide_false, decide_true, tM1, tM0, tDrop, tAug, ipI]
      exact ixT (SqT.of (e3 e _ h1)) (atN (i := 1) rfl) (q' H3 (Ex.refl _))
    · refine ⟨D, rfl, e3, hD, (es.filter fun e => decide (wordAt (tupAt H e) ∈ [Str.ofString "need", Str.ofString "try"])).map fun e => modAt (tupAt H e), ?_, ?_, ?_⟩
      · rw [h3, List.map_map]
        rfl
      · rw [List.length_map]
        have := List.length_filter_le (fun e => decide (wordAt (tupAt H e) ∈ [Str.ofString "need", Str.ofString "try"])) es
        omega
      · intro y hy
        obtain ⟨e, he, rfl⟩ := List.mem_map.mp hy
        obtain ⟨he1, he2⟩ := List.mem_filter.mp he
        obtain ⟨h1, h2⟩ := hft e he1
        obtain ⟨wd, r, et, hw⟩ := h2.word
        rw [et] at he2 ⊢
        obtain ⟨m, r2, rfl, hm⟩ := hw (of_decide_eq_true he2)
        exact hm
  rintro σ' H1 ⟨kn, ms, rfl, e1, hk0, hkn, hml, hms⟩
  have hkp := hp.ne hk0
  have htg1 := e1 tg _ htg
  have hlb1 := e1 lb _ hlb
  have hp1 := hp.ex e1
  try simp only [tTup, is_ss, is_si, is_ii, is_ib, is_is, is_bs, is_ns, is_ni, is_nt, Bool.not_false, Bool.not_true, tSeq, tIfS, tRet, tRetN, tNext, tNever, tAsg, gName, tVar, tC, tOp, tUn, tCons, tNil, tCB, tCall, tTest, tB, tAnd, tOr, tNot, tAndV, tOrV, tNotV, tIf, tChain, rI0, rI, rU, rEq, rNe, List.map_cons, List.map_nil, List.length_cons, List.length_nil, List.replicate, List.cons_append, List.nil_append, List.append_nil, List.getElem?_cons_zero, List.getElem?_cons_succ, List.set_cons_zero, List.set_cons_succ, Option.some.injEq, exists_eq_left', exists_eq_left, exists_eq_right, V.str.injEq, V.int.injEq, V.bl.injEq, V.ref.injEq, V.ty.injEq, List.cons.injEq, and_true, true_and, exists_and_left, Nat.zero_add, Nat.add_sub_cancel, Nat.sub_self, Nat.succ_sub_succ_eq_sub, Nat.reduceSub, Nat.reduceAdd, Nat.sub_zero, tYes, tSl, tPart, tNoPart, if_true, Bool.false_eq_true, if_false, reduceCtorEq, false_and, exists_false, or_false, false_or, scal, tLc_eq, tFor_eq, iStr, iList, iTup, RZ.iZipA, decide_false, decide_true, tM1, tM0, tDrop, tAug, ipI]
  have zs : ∀ a b c : Nat, a ≤ 100 → b ≤ 100 → c ≤ 100 → a + b + c + 0 ≤ sizeLine := fun a b c h1 h2 h3 => small' (by omega)
  refine catQ htg1 hkn (by rw [List.length_map, List.length_map]; exact small' (by omega)) fun q1 hq1 => ?_
  have f1 : Ex H1 (upd H1 q1 (.lst (ts.map V.str ++ ms.map V.str))) := Ex.new hq1
  generalize hL1 : ts.map V.str ++ ms.map V.str = L1 at f1 hq1 ⊢
  have zL1 : L1.length ≤ 200 := by rw [← hL1, List.length_append, List.length_map, List.length_map]; omega
  refine catQ (xs := L1) upd_same (f1 kn _ hkn) (by rw [List.length_map]; exact small' (by omega)) fun q2 hq2 => ?_
  have f2 : Ex H1 (upd (upd H1 q1 (.lst L1)) q2 (.lst (L1 ++ ms.map V.str))) := f1.trans (Ex.new hq2)
  generalize hL2 : L1 ++ ms.map V.str = L2 at f2 hq2 ⊢
  have zL2 : L2.length ≤ 300 := by rw [← hL2, List.length_append, List.length_map]; omega
  refine catQ (xs := L2) upd_same (f2 kn _ hkn) (by rw [List.length_map]; exact small' (by omega)) fun q3 hq3 => ?_
  have f3 : Ex H1 (upd (upd (upd H1 q1 (.lst L1)) q2 (.lst L2)) q3 (.lst (L2 ++ ms.map V.str))) := f2.trans (Ex.new hq3)
  have hq3p := (hp1.ex f2).ne hq3
  refine ⟨p, _, rfl, hp1.ex f3, .inl ⟨q3, _, rfl, hq3p, upd_same, ?_, ?_, fun H4 x d4 hx => ?_⟩⟩
  · rw [List.length_append, ← hL2, List.length_append, ← hL1, List.length_append, List.length_map]; omega
  · rw [List.length_append, List.length_map]; omega
  rw [← hL2, ← hL1] at hx
  obtain ⟨m, rfl, hm⟩ : ∃ m : Str, x = .str m ∧ m.length ≤ 10 := by
    simp only [List.mem_append] at hx
    have g1 : x ∈ ts.map V.str → ∃ m : Str, x = .str m ∧ m.length ≤ 10 := fun z => by
      obtain ⟨m, hm, rfl⟩ := List.mem_map.mp z
      exact ⟨m, rfl, hts m hm⟩
    have g2 : x ∈ ms.map V.str → ∃ m : Str, x = .str m ∧ m.length ≤ 10 := fun z => by
      obtain ⟨m, hm, rfl⟩ := List.mem_map.mp z
      exact ⟨m, rfl, hms m hm⟩
    rcases hx with ((z | z) | z) | z
    · exact g1 z
    · exact g2 z
    · exact g2 z
    · exact g2 z
  have dr4 : Dr p H H4 := Dr.after (e1.trans f3) d4
  refine ⟨p, _, rfl, dr4.pot, .inr ⟨_, rfl, abcd_ok.1, abcd_ok.2, fun H5 c d5 _ => ?_⟩⟩
  have dr5 := dr4.trans d5
  refine ⟨p, _, rfl, dr5.pot, .inl ⟨lb, _, rfl, hlp, dr5.ex lb _ hlp hlb, by rw [List.length_map]; exact hl0, by rw [List.length_map]; omega, fun H6 z d6 hz => ⟨Nat.le_of_ble_eq_true rfl, fun a ha => ?_⟩⟩⟩
  obtain ⟨l, hl, rfl⟩ := List.mem_map.mp hz
  have nr : Str.ofString "read" ∉ [Str.ofString "need", Str.ofString "try"] ∧ (Str.ofString "read").length ≤ 10 := by decide +kernel
  refine hQ _ a _ ((dr5.trans d6).then (Ex.new ha)) upd_same (step_mk nr.2 (fun w => absurd w nr.1) (Nat.le_of_ble_eq_true rfl) fun v hv => ?_)
  simp only [List.mem_cons, List.not_mem_nil, or_false] at hv
  rcases hv with rfl | rfl | rfl
  · exact part_one
  · exact part_str hm
  · exact part_str (hls l hl)

end K17

-- text K17R5
set_option maxHeartbeats 8000000
namespace K17
open PySem PySem.Spec PyProof.Rows L2 Evl
variable {P : Program} {w : World} {K : PySem.W.Frag} {mg : Str → Option Value} {base : Heap} {d : Ad}
/-! ## the generator: programs, modules -/
theorem StepsAt.ex {H H1 : Hp} {a : Addr} {es : List Addr} (h : StepsAt H a es) (e : Ex H H1) : StepsAt H1 a es := ⟨e _ _ h.1, fun b hb => let ⟨t, q1, q2⟩ := h.2 b hb; ⟨t, e _ _ q1, q2⟩⟩
theorem StepsAt.snoc {H : Hp} {a b : Addr} {es : List Addr} {t : List V} (h : StepsAt H a es) (hb : H b = some (.tup t)) (ht : StepV t) : StepsAt (upd H a (.lst (es.map V.ref ++ [.ref b]))) a (es ++ [b]) := by
  refine ⟨by rw [upd_same, List.map_append]; rfl, fun e he => ?_⟩
  have go : ∀ e t, H e = some (.tup t) → upd H a (.lst (es.map V.ref ++ [.ref b])) e = some (.tup t) := fun e t q => by
    rw [upd_ne (fun z => by rw [z, h.1] at q; cases q)]
    exact q
  rcases List.mem_append.mp he with z | z
  · obtain ⟨t2, q1, q2⟩ := h.2 e z
    exact ⟨t2, go _ _ q1, q2⟩
  · rw [List.mem_singleton.mp z]
    exact ⟨t, go _ _ hb, ht⟩
theorem nilYes {K : PySem.W.Frag} {σ : L2.St} {H : Hp} {a : Addr} {xs : List V} {Z : VK} (h : H a = some (.lst xs)) (h0 : 0 < xs.length) (q : ∀ H', Ex H H' → Z (.bl true) H') : tLst tNil σ H (fun y H2 => rNilL K true (.ref a) y H2 Z) := by
  refine ⟨Nat.zero_le _, fun p0 hp0 => ?_⟩
  have e : Ex H (upd H p0 (.lst [])) := Ex.new hp0
  refine ⟨a, p0, xs, rfl, rfl, SqL.of (e a _ h), SqL.of upd_same, ?_⟩
  have hx : xs.isEmpty = false := by cases xs with
    | nil => exact absurd h0 (Nat.lt_irrefl _)
    | cons _ _ => rfl
  rw [if_pos rfl, hx]
  exact q _ e
def spProg : Sp := fun vs H Q _ => ∃ (p tg lb : Addr) (ts ls : List Str) (most : Nat), vs = [.ref p, .ref tg, .ref lb, .int most, .bl false] ∧ Pot H p ∧ tg ≠ p ∧ lb ≠ p ∧ H tg = some (.lst (ts.map V.str)) ∧ H lb = some (.lst (ls.map V.str)) ∧ 0 < ts.length ∧ ts.length ≤ 100 ∧ 0 < ls.length ∧ ls.length ≤ 100 ∧
  (∀ y ∈ ts, y.length ≤ 10) ∧ (∀ y ∈ ls, y.length ≤ 10) ∧ most ≤ 60 ∧ ∀ H' l es, Dr p H H' → H l = none → StepsAt H' l es → es.length ≤ most → Q (.ref l) H'
theorem o__law_program (T : Tx w K mg d) (F : Fd K mg "_law_program" s_L_program []) (o__law_draw : Ok0 P w K mg base 3 "_law_draw" ["_law_pot_here", "_law_bound"] spDraw) (o__law_choice : Ok0 P w K mg base 4 "_law_choice" ["_law_pot_here", "_law_options"] (spChoice K))
    (o__law_read_step : Ok0 P w K mg base 5 "_law_read_step" ["_law_pot_here", "_law_targets", "_law_labels", "_law_earlier"] spRStep) (o__law_local_step : Ok0 P w K mg base 5 "_law_local_step" ["_law_pot_here", "_law_room", "_law_labels", "_law_is_main"] spLocal) :
    Ok0 P w K mg base 7 "_law_program" ["_law_pot_here", "_law_targets", "_law_labels", "_law_most", "_law_is_main"] spProg := by
  refine mkOk 6 F sc_L_program (fun _ _ _ _ _ _ us hl => match us, hl with | [_, _, _, _, _], _ => rfl) (fun vs H Q E h => by obtain ⟨_, _, _, _, _, _, rfl, _⟩ := h; rfl) fun f cdv A outer s H vs Q E hr h => ?_
  obtain ⟨p, tg, lb, ts, ls, most, rfl, hp, htp, hlp, htg, hlb, ht0, ht1, hl0, hl1, hts, hls, hm, hQ⟩ := h
  refine ⟨_, PSs.nox (pss_cons (ps_par (i := 5) (j := 6) rfl sc_L_program.nd rfl rfl (by decide) rfl rfl (pa_cons (pe_lst pa_nil) (pa_cons (pe_c o__law_draw (hr.mono (by decide)) pass0 (pa_cons (pv 0) (pa_cons (pe_op op_add (pv 3) pe_int) pa_nil))) pa_nil)) rfl)
    (pss_cons (ps_for PassesOwn.never rfl (pi_range1 (by rfl) T.b_range (pa_cons (pv 6) pa_nil)) (pg_name (i := 7) sc_L_program.nd rfl (.inl rfl)) (pss_cons (ps_set (i := 8) sc_L_program.nd rfl (.inl rfl) (pe_c o__law_draw (hr.mono (by decide)) pass0 (pa_cons (pv 0) (pa_cons pe_int pa_nil))))
    (pss_one (ps_if (PW.pt (pw_and (pt_cmpR (op_neE hr.units0) (pv 1) (pe_lst pa_nil) (nomark _)) (pw_and1 (pt_cmpR op_lt (pv 8) pe_int (nomark _))))) (pss_one (ps_expr (pe_bm PySem.F.plainAttrs_list PySem.F.slot_list_append PySem.F.type_list_append mt_append (pv 5) (pa_cons (pe_tup (pa_cons pe_str (pa_cons (pe_c o__law_choice (hr.mono (by decide)) pass0 (pa_cons (pv 0) (pa_cons (pv 1) pa_nil))) pa_nil))) pa_nil)))) (pss_one (ps_if (PW.pt (pw_and (pt_cmpR (op_neE hr.units0) (pv 1) (pe_lst pa_nil) (nomark _)) (pw_and1 (pt_cmpR op_lt (pv 8) pe_int (nomark _))))) (pss_one (ps_expr (pe_bm PySem.F.plainAttrs_list PySem.F.slot_list_append PySem.F.type_list_append mt_append (pv 5) (pa_cons (pe_tup (pa_cons pe_str (pa_cons (pe_c o__law_choice (hr.mono (by decide)) pass0 (pa_cons (pv 0) (pa_cons (pv 1) pa_nil))) (pa_cons (pe_c o__law_choice (hr.mono (by decide)) pass0 (pa_cons (pv 0) (pa_cons pe_str pa_nil))) pa_nil)))) pa_nil)))) (pss_one (ps_if (PW.pt (pw_and (pt_cmpR (op_neE hr.units0) (pv 1) (pe_lst pa_nil) (nomark _)) (pw_and1 (pt_cmpR op_lt (pv 8) pe_int (nomark _))))) (pss_one (ps_expr (pe_bm PySem.F.plainAttrs_list PySem.F.slot_list_append PySem.F.type_list_append mt_append (pv 5) (pa_cons (pe_c o__law_read_step (hr.mono (by decide)) pass0 (pa_cons (pv 0) (pa_cons (pv 1) (pa_cons (pv 2) (pa_cons (pv 5) pa_nil))))) pa_nil)))) (pss_one (ps_if (PW.pt (pw_and (pt_cmpR op_eq (pv 8) pe_int (nomark _)) (pw_and1 (pt_cmpR op_eq (pe_c o__law_draw (hr.mono (by decide)) pass0 (pa_cons (pv 0) (pa_cons pe_int pa_nil))) pe_int (nomark _))))) (pss_one (ps_expr (pe_bm PySem.F.plainAttrs_list PySem.F.slot_list_append PySem.F.type_list_append mt_append (pv 5) (pa_cons (pe_tup (pa_cons pe_str pa_nil)) pa_nil)))) (pss_one (ps_expr (pe_bm PySem.F.plainAttrs_list PySem.F.slot_list_append PySem.F.type_list_append mt_append (pv 5) (pa_cons (pe_c o__law_local_step (hr.mono (by decide)) pass0 (pa_cons (pv 0) (pa_cons (pe_op op_sub (pe_op op_sub (pv 6) (pv 7)) pe_int) (pa_cons (pv 2) (pa_cons (pv 4) pa_nil))))) pa_nil))))))))))))))
    (pss_one (ps_ret (pv 5))))), ?_⟩
  try simp only [tPar, tLst, iRng1, n_L_program, L2.start, cxK, cxW, cxK', cxW', is_ss, is_si, is_ii, is_ib, is_is, is_bs, is_ns, is_ni, is_nt, Bool.not_false, Bool.not_true, tSeq, tIfS, tRet, tRetN, tNext, tNever, tAsg, gName, tVar, tC, tOp, tUn, tCons, tNil, tCB, tCall, tTest, tB, tAnd, tOr, tNot, tAndV, tOrV, tNotV, tIf, tChain, rI0, rI, rU, rEq, rNe, List.map_cons, List.map_nil, List.length_cons, List.length_nil, List.replicate, List.cons_append, List.nil_append, List.append_nil, List.getElem?_cons_zero, List.getElem?_cons_succ, List.set_cons_zero, List.set_cons_succ, Option.some.injEq, exists_eq_left', exists_eq_left, exists_eq_right, V.str.injEq, V.int.injEq, V.bl.injEq, V.ref.injEq, V.ty.injEq, List.cons.injEq, and_true, true_and, exists_and_left, Nat.zero_add, Nat.add_sub_cancel, Nat.sub_self, Nat.succ_sub_succ_eq_sub, Nat.reduceSub, Nat.reduceAdd, Nat.sub_zero, tYes, tSl, tPart, tNoPart, if_true, Bool.false_eq_true, if_false, reduceCtorEq, false_and, exists_false, or_false, false_or, scal, tLc_eq, tFor_eq, iStr, iList, iTup, RZ.iZipA, decide_false, decide_true, tM1, tM0, tDrop, tAug, ipI]
  refine ⟨Nat.zero_le _, fun l hl => ?_⟩
  have e1 : Ex H (upd H l (.lst [])) := Ex.new hl
  have hlp0 := hp.ne hl
  refine ⟨p, _, rfl, hp.ex e1, by omega, by omega, fun H1 k d1 k0 k1 => ⟨_, _, ⟨rfl, rfl⟩, k, rfl, by omega, by omega, ?_⟩⟩
  have dr1 : Dr p H H1 := Dr.after e1 d1
  have h1l : H1 l = some (.lst []) := d1.ex l _ hlp0 upd_same
  obtain ⟨n, rfl⟩ : ∃ n : Nat, k = (n : Int) := ⟨k.toNat, by omega⟩
  rw [Int.toNat_natCast]
  obtain ⟨W, hW⟩ : ∃ W : Nat → L2.St → Hp → Prop, ∀ i σ' H', W i σ' H' ↔ ∃ (x y : Option V) (es : List Addr), σ' = [some (.ref p), some (.ref tg), some (.ref lb), some (.int most), some (.bl false), some (.ref l), some (.int n), x, y] ∧ Dr p H H' ∧ StepsAt H' l es ∧ es.length = i := ⟨_, fun _ _ _ => Iff.rfl⟩
  refine forP (goes_rng (small (by omega))) W ((hW _ _ _).mpr ⟨none, none, [], rfl, dr1, ⟨h1l, fun e he => by cases he⟩, rfl⟩) (fun _ _ _ _ => trivial) ?_ ?_
  · intro i σ' H' H2 hi hw e2
    obtain ⟨x, y, es, rfl, dr, hst, hes⟩ := (hW _ _ _).mp hw
    have dr2 := dr.then e2
    have hst2 := hst.ex e2
    try simp only [is_ss, is_si, is_ii, is_ib, is_is, is_bs, is_ns, is_ni, is_nt, Bool.not_false, Bool.not_true, tSeq, tIfS, tRet, tRetN, tNext, tNever, tAsg, gName, tVar, tC, tOp, tUn, tCons, tNil, tCB, tCall, tTest, tB, tAnd, tOr, tNot, tAndV, tOrV, tNotV, tIf, tChain, rI0, rI, rU, rEq, rNe, List.map_cons, List.map_nil, List.length_cons, List.length_nil, List.replicate, List.cons_append, List.nil_append, List.append_nil, List.getElem?_cons_zero, List.getElem?_cons_succ, List.set_cons_zero, List.set_cons_succ, Option.some.injEq, exists_eq_left', exists_eq_left, exists_eq_right, V.str.injEq, V.int.injEq, V.bl.injEq, V.ref.injEq, V.ty.injEq, List.cons.injEq, and_true, true_and, exists_and_left, Nat.zero_add, Nat.add_sub_cancel, Nat.sub_self, Nat.succ_sub_succ_eq_sub, Nat.reduceSub, Nat.reduceAdd, Nat.sub_zero, tYes, tSl, tPart, tNoPart, if_true, Bool.false_eq_true, if_false, reduceCtorEq, false_and, exists_false, or_false, false_or, scal, tLc_eq, tFor_eq, iStr, iList, iTup, RZ.iZipA, decide_false, decide_true, tM1, tM0, tDrop, tAug, ipI, -tIfS]
    refine ⟨p, 12, rfl, dr2.pot, by decide, by decide, fun H3 way d3 w0 w1 => ?_⟩
    have dr3 := dr2.trans d3
    have hst3 := hst2.mono dr2.pot d3.ex
    have fin : ∀ H4 a t (x' y' : Option V), Dr p H H4 → StepsAt H4 l es → H4 a = some (.tup t) → StepV t → rAppend (.ref l) [.ref a] H4 fun _ H5 => W (i + 1) [some (.ref p), some (.ref tg), some (.ref lb), some (.int most), some (.bl false), some (.ref l), some (.int n), x', y'] H5 := fun H4 a t x' y' dr4 h4 ha ht => by
      refine appQ h4.1 (small (by rw [List.length_map]; omega)) ((hW _ _ _).mpr ⟨x', y', es ++ [a], rfl, dr4.upd hl hlp0, h4.snoc ha ht, by rw [List.length_append, hes]; rfl⟩)
    try simp only [is_ss, is_si, is_ii, is_ib, is_is, is_bs, is_ns, is_ni, is_nt, Bool.not_false, Bool.not_true, tSeq, tIfS, tRet, tRetN, tNext, tNever, tAsg, gName, tVar, tC, tOp, tUn, tCons, tNil, tCB, tCall, tTest, tB, tAnd, tOr, tNot, tAndV, tOrV, tNotV, tIf, tChain, rI0, rI, rU, rEq, rNe, List.map_cons, List.map_nil, List.length_cons, List.length_nil, List.replicate, List.cons_append, List.nil_append, List.append_nil, List.getElem?_cons_zero, List.getElem?_cons_succ, List.set_cons_zero, List.set_cons_succ, Option.some.injEq, exists_eq_left', exists_eq_left, exists_eq_right, V.str.injEq, V.int.injEq, V.bl.injEq, V.ref.injEq, V.ty.injEq, List.cons.injEq, and_true, true_and, exists_and_left, Nat.zero_add, Nat.add_sub_cancel, Nat.sub_self, Nat.succ_sub_succ_eq_sub, Nat.reduceSub, Nat.reduceAdd, Nat.sub_zero, tYes, tSl, tPart, tNoPart, if_true, Bool.false_eq_true, if_false, reduceCtorEq, false_and, exists_false, or_false, false_or, scal, tLc_eq, tFor_eq, iStr, iList, iTup, RZ.iZipA, decide_false, decide_true, tM1, tM0, tDrop, tAug, ipI, -tIfS]
    have ltg : 0 < (ts.map V.str).length := by rw [List.length_map]; exact ht0
    have tgs : ∀ H', Dr p H H' → H' tg = some (.lst (ts.map V.str)) := fun H' e => e.ex tg _ htp htg
    have lbs : ∀ H', Dr p H H' → H' lb = some (.lst (ls.map V.str)) := fun H' e => e.ex lb _ hlp hlb
    have chT : ∀ (H' : Hp) (Z : VK), Dr p H H' → (∀ H2 m, Dr p H' H2 → m.length ≤ 10 → Z (.str m) H2) → spChoice K [.ref p, .ref tg] H' Z E0 := fun H' Z dr' z =>
      ⟨p, _, rfl, dr'.pot, .inl ⟨tg, _, rfl, htp, tgs H' dr', ltg, by rw [List.length_map]; omega, fun H2 v d2 hv => by
        obtain ⟨m, hm, rfl⟩ := List.mem_map.mp hv
        exact z H2 m d2 (hts m hm)⟩⟩
    refine nilYes (tgs H3 dr3) ltg fun H4 e4 => ⟨true, rfl, ?_⟩
    have dr4 := dr3.then e4
    have hst4 := hst3.ex e4
    rw [if_pos rfl]
    by_cases c4 : way < 4
    · rw [if_pos (decide_eq_true c4)]
      try simp only [tBM, tTup, is_ss, is_si, is_ii, is_ib, is_is, is_bs, is_ns, is_ni, is_nt, Bool.not_false, Bool.not_true, tSeq, tIfS, tRet, tRetN, tNext, tNever, tAsg, gName, tVar, tC, tOp, tUn, tCons, tNil, tCB, tCall, tTest, tB, tAnd, tOr, tNot, tAndV, tOrV, tNotV, tIf, tChain, rI0, rI, rU, rEq, rNe, List.map_cons, List.map_nil, List.length_cons, List.length_nil, List.replicate, List.cons_append, List.nil_append, List.append_nil, List.getElem?_cons_zero, List.getElem?_cons_succ, List.set_cons_zero, List.set_cons_succ, Option.some.injEq, exists_eq_left', exists_eq_left, exists_eq_right, V.str.injEq, V.int.injEq, V.bl.injEq, V.ref.injEq, V.ty.injEq, List.cons.injEq, and_true, true_and, exists_and_left, Nat.zero_add, Nat.add_sub_cancel, Nat.sub_self, Nat.succ_sub_succ_eq_sub, Nat.reduceSub, Nat.reduceAdd, Nat.sub_zero, tYes, tSl, tPart, tNoPart, if_true, Bool.false_eq_true, if_false, reduceCtorEq, false_and, exists_false, or_false, false_or, scal, tLc_eq, tFor_eq, iStr, iList, iTup, RZ.iZipA, decide_false, decide_true, tM1, tM0, tDrop, tAug, ipI]
      refine ⟨tyL (SqL.of hst4.1), chT H4 _ dr4 fun H5 m d5 hm => ⟨Nat.le_of_ble_eq_true rfl, fun a ha => ?_⟩⟩
      have hw : (Str.ofString "need").length ≤ 10 := by decide +kernel
      refine fin _ a _ _ _ ((dr4.trans d5).then (Ex.new ha)) ((hst4.mono dr4.pot d5.ex).ex (Ex.new ha)) upd_same (step_mk hw (fun _ => ⟨m, [], rfl, hm⟩) (Nat.le_of_ble_eq_true rfl) fun v hv => ?_)
      rw [List.mem_singleton.mp hv]
      exact part_str hm
    rw [if_neg (by rw [decide_eq_true_eq]; exact c4)]
    refine nilYes (tgs H4 dr4) ltg fun H5 e5 => ⟨true, rfl, ?_⟩
    have dr5 := dr4.then e5
    have hst5 := hst4.ex e5
    rw [if_pos rfl]
    by_cases c6 : way < 6
    · rw [if_pos (decide_eq_true c6)]
      try simp only [tBM, tTup, is_ss, is_si, is_ii, is_ib, is_is, is_bs, is_ns, is_ni, is_nt, Bool.not_false, Bool.not_true, tSeq, tIfS, tRet, tRetN, tNext, tNever, tAsg, gName, tVar, tC, tOp, tUn, tCons, tNil, tCB, tCall, tTest, tB, tAnd, tOr, tNot, tAndV, tOrV, tNotV, tIf, tChain, rI0, rI, rU, rEq, rNe, List.map_cons, List.map_nil, List.length_cons, List.length_nil, List.replicate, List.cons_append, List.nil_append, List.append_nil, List.getElem?_cons_zero, List.getElem?_cons_succ, List.set_cons_zero, List.set_cons_succ, Option.some.injEq, exists_eq_left', exists_eq_left, exists_eq_right, V.str.injEq, V.int.injEq, V.bl.injEq, V.ref.injEq, V.ty.injEq, List.cons.injEq, and_true, true_and, exists_and_left, Nat.zero_add, Nat.add_sub_cancel, Nat.sub_self, Nat.succ_sub_succ_eq_sub, Nat.reduceSub, Nat.reduceAdd, Nat.sub_zero, tYes, tSl, tPart, tNoPart, if_true, Bool.false_eq_true, if_false, reduceCtorEq, false_and, exists_false, or_false, false_or, scal, tLc_eq, tFor_eq, iStr, iList, iTup, RZ.iZipA, decide_false, decide_true, tM1, tM0, tDrop, tAug, ipI]
      refine ⟨tyL (SqL.of hst5.1), chT H5 _ dr5 fun H6 m d6 hm => ⟨p, _, rfl, (dr5.trans d6).pot, .inr ⟨_, rfl, abcd_ok.1, abcd_ok.2, fun H7 c d7 _ => ⟨Nat.le_of_ble_eq_true rfl, fun a ha => ?_⟩⟩⟩⟩
      have hw : (Str.ofString "try").length ≤ 10 := by decide +kernel
      have dr7 := (dr5.trans d6).trans d7
      refine fin _ a _ _ _ (dr7.then (Ex.new ha)) ((hst5.mono dr5.pot (d6.trans d7).ex).ex (Ex.new ha)) upd_same (step_mk hw (fun _ => ⟨m, _, rfl, hm⟩) (Nat.le_of_ble_eq_true rfl) fun v hv => ?_)
      rcases List.mem_cons.mp hv with z | z
      · rw [z]; exact part_str hm
      · rw [List.mem_singleton.mp z]; exact part_one
    rw [if_neg (by rw [decide_eq_true_eq]; exact c6)]
    refine nilYes (tgs H5 dr5) ltg fun H6 e6 => ⟨true, rfl, ?_⟩
    have dr6 := dr5.then e6
    have hst6 := hst5.ex e6
    rw [if_pos rfl]
    by_cases c8 : way < 8
    · rw [if_pos (decide_eq_true c8)]
      try simp only [tBM, tTup, is_ss, is_si, is_ii, is_ib, is_is, is_bs, is_ns, is_ni, is_nt, Bool.not_false, Bool.not_true, tSeq, tIfS, tRet, tRetN, tNext, tNever, tAsg, gName, tVar, tC, tOp, tUn, tCons, tNil, tCB, tCall, tTest, tB, tAnd, tOr, tNot, tAndV, tOrV, tNotV, tIf, tChain, rI0, rI, rU, rEq, rNe, List.map_cons, List.map_nil, List.length_cons, List.length_nil, List.replicate, List.cons_append, List.nil_append, List.append_nil, List.getElem?_cons_zero, List.getElem?_cons_succ, List.set_cons_zero, List.set_cons_succ, Option.some.injEq, exists_eq_left', exists_eq_left, exists_eq_right, V.str.injEq, V.int.injEq, V.bl.injEq, V.ref.injEq, V.ty.injEq, List.cons.injEq, and_true, true_and, exists_and_left, Nat.zero_add, Nat.add_sub_cancel, Nat.sub_self, Nat.succ_sub_succ_eq_sub, Nat.reduceSub, Nat.reduceAdd, Nat.sub_zero, tYes, tSl, tPart, tNoPart, if_true, Bool.false_eq_true, if_false, reduceCtorEq, false_and, exists_false, or_false, false_or, scal, tLc_eq, tFor_eq, iStr, iList, iTup, RZ.iZipA, decide_false, decide_true, tM1, tM0, tDrop, tAug, ipI]
      refine ⟨tyL (SqL.of hst6.1), p, tg, lb, l, ts, ls, es, rfl, dr6.pot, htp, hlp, tgs _ dr6, lbs _ dr6, ht0, ht1, hl0, hl1, hts, hls, hst6, by omega, fun H7 a t d7 ha ht => ?_⟩
      exact fin _ a t _ _ (dr6.trans d7) (hst6.mono dr6.pot d7.ex) ha ht
    rw [if_neg (by rw [decide_eq_true_eq]; exact c8)]
    have goL : ∀ H7, Dr p H6 H7 → spLocal [.ref p, .int ((n : Int) - (0 + (i : Int)) - 1), .ref lb, .bl false] H7 (fun v H8 => rAppend (.ref l) [v] H8 fun _ H9 => W (i + 1) [some (.ref p), some (.ref tg), some (.ref lb), some (.int most), some (.bl false), some (.ref l), some (.int n), some (.int (0 + (i : Int))), some (.int way)] H9) E0 := fun H7 d7 => by
      have dr7 := dr6.trans d7
      refine ⟨p, lb, _, ls, rfl, dr7.pot, by omega, hlp, lbs _ dr7, hl0, hl1, hls, fun H8 a t d8 ha ht => ?_⟩
      exact fin _ a t _ _ (dr7.trans d8) (hst6.mono dr6.pot (d7.trans d8).ex) ha ht
    by_cases c9 : way = 8
    · rw [if_pos (decide_eq_true c9)]
      refine ⟨p, 3, rfl, dr6.pot, by decide, by decide, fun H7 k7 d7 k0 k1 => ⟨rfl, ?_⟩⟩
      have dr7 := dr6.trans d7
      have hst7 := hst6.mono dr6.pot d7.ex
      by_cases z : k7 = 0
      · rw [if_pos (decide_eq_true (by rw [z]))]
        try simp only [tBM, tTup, is_ss, is_si, is_ii, is_ib, is_is, is_bs, is_ns, is_ni, is_nt, Bool.not_false, Bool.not_true, tSeq, tIfS, tRet, tRetN, tNext, tNever, tAsg, gName, tVar, tC, tOp, tUn, tCons, tNil, tCB, tCall, tTest, tB, tAnd, tOr, tNot, tAndV, tOrV, tNotV, tIf, tChain, rI0, rI, rU, rEq, rNe, List.map_cons, List.map_nil, List.length_cons, List.length_nil, List.replicate, List.cons_append, List.nil_append, List.append_nil, List.getElem?_cons_zero, List.getElem?_cons_succ, List.set_cons_zero, List.set_cons_succ, Option.some.injEq, exists_eq_left', exists_eq_left, exists_eq_right, V.str.injEq, V.int.injEq, V.bl.injEq, V.ref.injEq, V.ty.injEq, List.cons.injEq, and_true, true_and, exists_and_left, Nat.zero_add, Nat.add_sub_cancel, Nat.sub_self, Nat.succ_sub_succ_eq_sub, Nat.reduceSub, Nat.reduceAdd, Nat.sub_zero, tYes, tSl, tPart, tNoPart, if_true, Bool.false_eq_true, if_false, reduceCtorEq, false_and, exists_false, or_false, false_or, scal, tLc_eq, tFor_eq, iStr, iList, iTup, RZ.iZipA, decide_false, decide_true, tM1, tM0, tDrop, tAug, ipI]
        refine ⟨tyL (SqL.of hst7.1), Nat.le_of_ble_eq_true rfl, fun a ha => ?_⟩
        have hw : (Str.ofString "fail").length ≤ 10 ∧ Str.ofString "fail" ∉ [Str.ofString "need", Str.ofString "try"] := by decide +kernel
        exact fin _ a _ _ _ (dr7.then (Ex.new ha)) (hst7.ex (Ex.new ha)) upd_same (step_mk hw.1 (fun w => absurd w hw.2) (Nat.zero_le _) fun v hv => by cases hv)
      · rw [if_neg (by rw [decide_eq_true_eq]; exact fun q => z (V.int.inj q))]
        try simp only [tBM, tTup, is_ss, is_si, is_ii, is_ib, is_is, is_bs, is_ns, is_ni, is_nt, Bool.not_false, Bool.not_true, tSeq, tIfS, tRet, tRetN, tNext, tNever, tAsg, gName, tVar, tC, tOp, tUn, tCons, tNil, tCB, tCall, tTest, tB, tAnd, tOr, tNot, tAndV, tOrV, tNotV, tIf, tChain, rI0, rI, rU, rEq, rNe, List.map_cons, List.map_nil, List.length_cons, List.length_nil, List.replicate, List.cons_append, List.nil_append, List.append_nil, List.getElem?_cons_zero, List.getElem?_cons_succ, List.set_cons_zero, List.set_cons_succ, Option.some.injEq, exists_eq_left', exists_eq_left, exists_eq_right, V.str.injEq, V.int.injEq, V.bl.injEq, V.ref.injEq, V.ty.injEq, List.cons.injEq, and_true, true_and, exists_and_left, Nat.zero_add, Nat.add_sub_cancel, Nat.sub_self, Nat.succ_sub_succ_eq_sub, Nat.reduceSub, Nat.reduceAdd, Nat.sub_zero, tYes, tSl, tPart, tNoPart, if_true, Bool.false_eq_true, if_false, reduceCtorEq, false_and, exists_false, or_false, false_or, scal, tLc_eq, tFor_eq, iStr, iList, iTup, RZ.iZipA, decide_false, decide_true, tM1, tM0, tDrop, tAug, ipI]
        exact ⟨tyL (SqL.of hst7.1), goL H7 d7⟩
    · rw [if_neg (by rw [decide_eq_true_eq]; exact c9)]
      try simp only [tBM, tTup, is_ss, is_si, is_ii, is_ib, is_is, is_bs, is_ns, is_ni, is_nt, Bool.not_false, Bool.not_true, tSeq, tIfS, tRet, tRetN, tNext, tNever, tAsg, gName, tVar, tC, tOp, tUn, tCons, tNil, tCB, tCall, tTest, tB, tAnd, tOr, tNot, tAndV, tOrV, tNotV, tIf, tChain, rI0, rI, rU, rEq, rNe, List.map_cons, List.map_nil, List.length_cons, List.length_nil, List.replicate, List.cons_append, List.nil_append, List.append_nil, List.getElem?_cons_zero, List.getElem?_cons_succ, List.set_cons_zero, List.set_cons_succ, Option.some.injEq, exists_eq_left', exists_eq_left, exists_eq_right, V.str.injEq, V.int.injEq, V.bl.injEq, V.ref.injEq, V.ty.injEq, List.cons.injEq, and_true, true_and, exists_and_left, Nat.zero_add, Nat.add_sub_cancel, Nat.sub_self, Nat.succ_sub_succ_eq_sub, Nat.reduceSub, Nat.reduceAdd, Nat.sub_zero, tYes, tSl, tPart, tNoPart, if_true, Bool.false_eq_true, if_false, reduceCtorEq, false_and, exists_false, or_false, false_or, scal, tLc_eq, tFor_eq, iStr, iList, iTup, RZ.iZipA, decide_false, decide_true, tM1, tM0, tDrop, tAug, ipI]
      exact ⟨tyL (SqL.of hst6.1), goL H6 (Dr.refl dr6.pot)⟩
  · intro σ' H' hw
    obtain ⟨x, y, es, rfl, dr, hst, hes⟩ := (hW _ _ _).mp hw
    try simp only [is_ss, is_si, is_ii, is_ib, is_is, is_bs, is_ns, is_ni, is_nt, Bool.not_false, Bool.not_true, tSeq, tIfS, tRet, tRetN, tNext, tNever, tAsg, gName, tVar, tC, tOp, tUn, tCons, tNil, tCB, tCall, tTest, tB, tAnd, tOr, tNot, tAndV, tOrV, tNotV, tIf, tChain, rI0, rI, rU, rEq, rNe, List.map_cons, List.map_nil, List.length_cons, List.length_nil, List.replicate, List.cons_append, List.nil_append, List.append_nil, List.getElem?_cons_zero, List.getElem?_cons_succ, List.set_cons_zero, List.set_cons_succ, Option.some.injEq, exists_eq_left', exists_eq_left, exists_eq_right, V.str.injEq, V.int.injEq, V.bl.injEq, V.ref.injEq, V.ty.injEq, List.cons.injEq, and_true, true_and, exists_and_left, Nat.zero_add, Nat.add_sub_cancel, Nat.sub_self, Nat.succ_sub_succ_eq_sub, Nat.reduceSub, Nat.reduceAdd, Nat.sub_zero, tYes, tSl, tPart, tNoPart, if_true, Bool.false_eq_true, if_false, reduceCtorEq, false_and, exists_false, or_false, false_or, scal, tLc_eq, tFor_eq, iStr, iList, iTup, RZ.iZipA, decide_false, decide_true, tM1, tM0, tDrop, tAug, ipI]
    exact hQ H' l es dr hl hst (by omega)
/-- a dict of programs, by module, each of at most n steps -/
def ProgsAt (n : Nat) (H : Hp) (e : Addr) (ms : List Mo) : Prop := H e = some (.dK (kvsM ms)) ∧ ∀ m ∈ ms, ∃ es, StepsAt H m.2.1 es ∧ es.length ≤ n
theorem StepsAt.updK {H : Hp} {a e : Addr} {es : List Addr} {kvs : List (Key × V)} {o : HO} (h : StepsAt H a es) (he : H e = some (.dK kvs)) : StepsAt (upd H e o) a es := by
  refine ⟨?_, fun b hb => ?_⟩
  · rw [upd_ne (fun z => by have q := h.1; rw [z, he] at q; cases q)]
    exact h.1
  · obtain ⟨t, q1, q2⟩ := h.2 b hb
    exact ⟨t, by rw [upd_ne (fun z => by rw [z, he] at q1; cases q1)]; exact q1, q2⟩
theorem first_ix {y : Str} : ∀ {ys : List Str}, y ∈ ys → ∃ j, ys[j]? = some y ∧ ∀ (m : Nat) (z : Str), m < j → ys[m]? = some z → z ≠ y
  | a :: r, h => by
    by_cases e : a = y
    · exact ⟨0, by rw [e]; rfl, fun m z hm => absurd hm (Nat.not_lt_zero _)⟩
    · have hr : y ∈ r := by
        rcases List.mem_cons.mp h with q | q
        · exact absurd q.symm e
        · exact q
      obtain ⟨j, h1, h2⟩ := first_ix hr
      refine ⟨j + 1, h1, fun m z hm hz => ?_⟩
      cases m with
      | zero => cases hz; exact e
      | succ m => exact h2 m z (by omega) hz
def spMods2 : Sp := fun vs H Q _ => ∃ (p : Addr) (most longest : Nat), vs = [.ref p, .int most, .int longest, .bl false] ∧ Pot H p ∧ 0 < most ∧ most ≤ 60 ∧ longest ≤ 60 ∧
  ∀ H' q e lb ms, Dr p H H' → H' q = some (.tup [.ref e, .ref lb]) → ProgsAt longest H' e ms → ms.length ≤ most → (ms.map (·.1)).Nodup → (∀ m ∈ ms, m.1.length ≤ 10) → Q (.ref q) H'
theorem o__law_modules (T : Tx w K mg d) (F : Fd K mg "_law_modules" s_L_modules []) (o__law_draw : Ok0 P w K mg base 3 "_law_draw" ["_law_pot_here", "_law_bound"] spDraw) (o__law_words : Ok0 P w K mg base 5 "_law_words" ["_law_pot_here", "_law_number"] spWords) (o__law_mixed : Ok0 P w K mg base 4 "_law_mixed" ["_law_pot_here", "_law_options"] spMixed)
    (o__law_program : Ok0 P w K mg base 7 "_law_program" ["_law_pot_here", "_law_targets", "_law_labels", "_law_most", "_law_is_main"] spProg) :
    Ok0 P w K mg base 9 "_law_modules" ["_law_pot_here", "_law_most", "_law_longest", "_law_is_acyclic"] spMods2 := by
  refine mkOk 8 F sc_L_modules (fun _ _ _ _ _ _ us hl => match us, hl with | [_, _, _, _], _ => rfl) (fun vs H Q E h => by obtain ⟨_, _, _, rfl, _⟩ := h; rfl) fun f cdv A outer s H vs Q E hr h => ?_
  obtain ⟨p, most, longest, rfl, hp, hm0, hm1, hlo, hQ⟩ := h
  refine ⟨_, PSs.nox (pss_cons (ps_set (i := 4) sc_L_modules.nd rfl (.inl rfl) (pe_c o__law_words (hr.mono (by decide)) pass0 (pa_cons (pv 0) (pa_cons (pe_op op_add pe_int (pe_c o__law_draw (hr.mono (by decide)) pass0 (pa_cons (pv 0) (pa_cons (pv 1) pa_nil)))) pa_nil))))
    (pss_cons (ps_par (i := 5) (j := 6) rfl sc_L_modules.nd rfl rfl (by decide) rfl rfl (pa_cons (pe_c o__law_mixed (hr.mono (by decide)) pass0 (pa_cons (pv 0) (pa_cons (pv 4) pa_nil))) (pa_cons (pe_c o__law_words (hr.mono (by decide)) pass0 (pa_cons (pv 0) (pa_cons pe_int pa_nil))) pa_nil)) rfl)
    (pss_cons (ps_set (i := 7) sc_L_modules.nd rfl (.inl rfl) pe_dnewK)
    (pss_cons (ps_for PassesOwn.never rfl (pi_list (pv 4)) (pg_name (i := 8) sc_L_modules.nd rfl (.inl rfl)) (pss_cons (ps_set (i := 9) sc_L_modules.nd rfl (.inl rfl) (pe_slice sl_list (pv 5) (po_some (pe_op op_add (pe_bm PySem.F.plainAttrs_list PySem.F.slot_list_index PySem.F.type_list_index mt_index (pv 5) (pa_cons (pv 8) pa_nil)) pe_int)) po_none))
    (pss_one (ps_dput (hu_of hr) (pv 7) (pv 8) (pe_c o__law_program (hr.mono (by decide)) pass0 (pa_cons (pv 0) (pa_cons (pe_ifExp (pt_val (pv 3)) (pv 9) (pv 4)) (pa_cons (pv 6) (pa_cons (pv 2) (pa_cons pe_bl pa_nil)))))) rfl))))
    (pss_one (ps_ret (pe_tup (pa_cons (pv 7) (pa_cons (pv 6) pa_nil))))))))), ?_⟩
  try simp only [n_L_modules, L2.start, cxK, cxW, cxK', cxW', is_ss, is_si, is_ii, is_ib, is_is, is_bs, is_ns, is_ni, is_nt, Bool.not_false, Bool.not_true, tSeq, tIfS, tRet, tRetN, tNext, tNever, tAsg, gName, tVar, tC, tOp, tUn, tCons, tNil, tCB, tCall, tTest, tB, tAnd, tOr, tNot, tAndV, tOrV, tNotV, tIf, tChain, rI0, rI, rU, rEq, rNe, List.map_cons, List.map_nil, List.length_cons, List.length_nil, List.replicate, List.cons_append, List.nil_append, List.append_nil, List.getElem?_cons_zero, List.getElem?_cons_succ, List.set_cons_zero, List.set_cons_succ, Option.some.injEq, exists_eq_left', exists_eq_left, exists_eq_right, V.str.injEq, V.int.injEq, V.bl.injEq, V.ref.injEq, V.ty.injEq, List.cons.injEq, and_true, true_and, exists_and_left, Nat.zero_add, Nat.add_sub_cancel, Nat.sub_self, Nat.succ_sub_succ_eq_sub, Nat.reduceSub, Nat.reduceAdd, Nat.sub_zero, tYes, tSl, tPart, tNoPart, if_true, Bool.false_eq_true, if_false, reduceCtorEq, false_and, exists_false, or_false, false_or, scal, tLc_eq, tFor_eq, iStr, iList, iTup, RZ.iZipA, decide_false, decide_true, tM1, tM0, tDrop, tAug, ipI]
  refine ⟨p, _, rfl, hp, by omega, by omega, fun H1 k d1 k0 k1 => ⟨k, rfl, ?_⟩⟩
  obtain ⟨k, rfl⟩ : ∃ j : Nat, k = (j : Int) := ⟨k.toNat, by omega⟩
  rw [show (1 : Int) + (k : Int) = ((k + 1 : Nat) : Int) by omega]
  refine ⟨p, _, rfl, d1.pot, by omega, fun H2 nm ws d2 hnm0 hnm hwl hw10 hnd => ?_⟩
  have hnmp := d1.pot.ne hnm0
  try simp only [tPar, is_ss, is_si, is_ii, is_ib, is_is, is_bs, is_ns, is_ni, is_nt, Bool.not_false, Bool.not_true, tSeq, tIfS, tRet, tRetN, tNext, tNever, tAsg, gName, tVar, tC, tOp, tUn, tCons, tNil, tCB, tCall, tTest, tB, tAnd, tOr, tNot, tAndV, tOrV, tNotV, tIf, tChain, rI0, rI, rU, rEq, rNe, List.map_cons, List.map_nil, List.length_cons, List.length_nil, List.replicate, List.cons_append, List.nil_append, List.append_nil, List.getElem?_cons_zero, List.getElem?_cons_succ, List.set_cons_zero, List.set_cons_succ, Option.some.injEq, exists_eq_left', exists_eq_left, exists_eq_right, V.str.injEq, V.int.injEq, V.bl.injEq, V.ref.injEq, V.ty.injEq, List.cons.injEq, and_true, true_and, exists_and_left, Nat.zero_add, Nat.add_sub_cancel, Nat.sub_self, Nat.succ_sub_succ_eq_sub, Nat.reduceSub, Nat.reduceAdd, Nat.sub_zero, tYes, tSl, tPart, tNoPart, if_true, Bool.false_eq_true, if_false, reduceCtorEq, false_and, exists_false, or_false, false_or, scal, tLc_eq, tFor_eq, iStr, iList, iTup, RZ.iZipA, decide_false, decide_true, tM1, tM0, tDrop, tAug, ipI]
  refine ⟨p, nm, ws, rfl, d2.pot, hnm, by omega, fun H3 od ys d3 hod0 hod hperm => ?_⟩
  have hodp := d2.pot.ne hod0
  refine ⟨p, 2, rfl, d3.pot, by decide, fun H4 lb ls d4 hlb0 hlb hll hl10 _ => ⟨_, _, ⟨rfl, rfl⟩, ?_⟩⟩
  have hlbp := d3.pot.ne hlb0
  have dr4 : Dr p H H4 := ((d1.trans d2).trans d3).trans d4
  have hnm4 := d4.ex nm _ hnmp (d3.ex nm _ hnmp hnm)
  have hod4 := d4.ex od _ hodp hod
  try simp only [tDNewK, iList, is_ss, is_si, is_ii, is_ib, is_is, is_bs, is_ns, is_ni, is_nt, Bool.not_false, Bool.not_true, tSeq, tIfS, tRet, tRetN, tNext, tNever, tAsg, gName, tVar, tC, tOp, tUn, tCons, tNil, tCB, tCall, tTest, tB, tAnd, tOr, tNot, tAndV, tOrV, tNotV, tIf, tChain, rI0, rI, rU, rEq, rNe, List.map_cons, List.map_nil, List.length_cons, List.length_nil, List.replicate, List.cons_append, List.nil_append, List.append_nil, List.getElem?_cons_zero, List.getElem?_cons_succ, List.set_cons_zero, List.set_cons_succ, Option.some.injEq, exists_eq_left', exists_eq_left, exists_eq_right, V.str.injEq, V.int.injEq, V.bl.injEq, V.ref.injEq, V.ty.injEq, List.cons.injEq, and_true, true_and, exists_and_left, Nat.zero_add, Nat.add_sub_cancel, Nat.sub_self, Nat.succ_sub_succ_eq_sub, Nat.reduceSub, Nat.reduceAdd, Nat.sub_zero, tYes, tSl, tPart, tNoPart, if_true, Bool.false_eq_true, if_false, reduceCtorEq, false_and, exists_false, or_false, false_or, scal, tLc_eq, tFor_eq, iStr, iList, iTup, RZ.iZipA, decide_false, decide_true, tM1, tM0, tDrop, tAug, ipI]
  intro e he
  have hep0 := dr4.pot.ne he
  have he0 : H e = none := by
    cases q : H e with
    | none => rfl
    | some u =>
      by_cases z : e = p
      · exact absurd z hep0
      · have := dr4.ex e u z q
        rw [he] at this
        cases this
  have e5 : Ex H4 (upd H4 e (.dK [])) := Ex.new he
  have h5e : upd H4 e (.dK []) e = some (.dK (kvsM [])) := upd_same
  have dr5 := dr4.then e5
  have hnm5 := e5 nm _ hnm4
  have hod5 := e5 od _ hod4
  have hlb5 := e5 lb _ hlb
  generalize upd H4 e (.dK []) = H5 at e5 h5e dr5 hnm5 hod5 hlb5
  refine ⟨⟨_, SqL.of hnm5⟩, ?_⟩
  obtain ⟨W, hW⟩ : ∃ W : Nat → L2.St → Hp → Prop, ∀ i σ' H', W i σ' H' ↔ ∃ (x y : Option V) (ms : List Mo), σ' = [some (.ref p), some (.int most), some (.int longest), some (.bl false), some (.ref nm), some (.ref od), some (.ref lb), some (.ref e), x, y] ∧ True ∧ Dr p H H' ∧ ProgsAt longest H' e ms ∧ ms.map (·.1) = ws.take i ∧
      H' nm = some (.lst (ws.map V.str)) ∧ H' od = some (.lst (ys.map V.str)) ∧ H' lb = some (.lst (ls.map V.str)) := ⟨_, fun _ _ _ => Iff.rfl⟩
  refine forP (goes_list (xs := ws.map V.str) (small (by rw [List.length_map]; omega))) W ((hW _ _ _).mpr ⟨none, none, [], rfl, trivial, dr5, ⟨h5e, fun m hm => by cases hm⟩, rfl, hnm5, hod5, hlb5⟩) (fun i σ' H' hw => ?_) ?_ ?_
  · obtain ⟨x, y, ms, rfl, _, _, _, _, h1, _, _⟩ := (hW _ _ _).mp hw
    exact SqL.of h1
  · intro i σ' H' H6 hi hw e6
    rw [List.length_map] at hi
    obtain ⟨x, y, ms, rfl, _, dr, hpr, hms, h1, h2, h3⟩ := (hW _ _ _).mp hw
    have hii : (ws.map V.str)[i]? = some (V.str ws[i]) := by simp [hi]
    rw [hii]
    have hyi : ws[i] ∈ ys := hperm.symm.subset (List.getElem_mem hi)
    obtain ⟨j, hj1, hj2⟩ := first_ix hyi
    have dr6 := dr.then e6
    try simp only [tBM, tSl, tPart, tNoPart, rSlL, sDPut_eq, is_ss, is_si, is_ii, is_ib, is_is, is_bs, is_ns, is_ni, is_nt, Bool.not_false, Bool.not_true, tSeq, tIfS, tRet, tRetN, tNext, tNever, tAsg, gName, tVar, tC, tOp, tUn, tCons, tNil, tCB, tCall, tTest, tB, tAnd, tOr, tNot, tAndV, tOrV, tNotV, tIf, tChain, rI0, rI, rU, rEq, rNe, List.map_cons, List.map_nil, List.length_cons, List.length_nil, List.replicate, List.cons_append, List.nil_append, List.append_nil, List.getElem?_cons_zero, List.getElem?_cons_succ, List.set_cons_zero, List.set_cons_succ, Option.some.injEq, exists_eq_left', exists_eq_left, exists_eq_right, V.str.injEq, V.int.injEq, V.bl.injEq, V.ref.injEq, V.ty.injEq, List.cons.injEq, and_true, true_and, exists_and_left, Nat.zero_add, Nat.add_sub_cancel, Nat.sub_self, Nat.succ_sub_succ_eq_sub, Nat.reduceSub, Nat.reduceAdd, Nat.sub_zero, tYes, tSl, tPart, tNoPart, if_true, Bool.false_eq_true, if_false, reduceCtorEq, false_and, exists_false, or_false, false_or, scal, tLc_eq, tFor_eq, iStr, iList, iTup, RZ.iZipA, decide_false, decide_true, tM1, tM0, tDrop, tAug, ipI]
    have h16 := e6 nm _ h1
    have h26 := e6 od _ h2
    have h36 := e6 lb _ h3
    have hm6 : ProgsAt longest H6 e ms := ⟨e6 _ _ hpr.1, fun m hm => let ⟨es, a1, a2⟩ := hpr.2 m hm; ⟨es, a1.ex e6, a2⟩⟩
    have hne1 : ∀ b xs, H6 b = some (.lst xs) → b ≠ e := fun b xs hb z => by rw [z, hm6.1] at hb; cases hb
    refine ⟨tyL (SqL.of h26), od, _, _, j, .str ws[i], rfl, rfl, SqL.of h26, rfl, flat_strs ys, by rw [List.getElem?_map, hj1]; rfl, ?_, fun m z' hm hz' => ?_, (j : Int), rfl, _, SqL.of h26, fun sl hsl => ?_⟩
    · show (ws[i] == ws[i]) = true
      exact beq_self_eq_true _
    · rw [List.getElem?_map] at hz'
      cases hz2 : ys[m]? with
      | none => rw [hz2] at hz'; cases hz'
      | some z =>
        rw [hz2] at hz'
        cases hz'
        show (z == ws[i]) = false
        rw [beq_eq_false_iff_ne]
        exact hj2 m z hm hz2
    have e7 := Ex.new (o := .lst (cutV (ys.map V.str) (some ((j : Int) + 1)) none)) hsl
    have dr7 := dr6.then e7
    generalize upd H6 sl (.lst (cutV (ys.map V.str) (some ((j : Int) + 1)) none)) = H7 at e7 dr7
    refine ⟨p, nm, lb, ws, ls, longest, rfl, dr7.pot, hnmp, hlbp, e7 _ _ h16, e7 _ _ h36, by omega, by omega, by omega, by omega, hw10, hl10, hlo, fun H8 l es d8 hl0 hst hes => ?_⟩
    have dr8 := dr7.trans d8
    have g1 := d8.ex nm _ hnmp (e7 _ _ h16)
    have g2 := d8.ex od _ hodp (e7 _ _ h26)
    have g3 := d8.ex lb _ hlbp (e7 _ _ h36)
    have g4 := d8.ex e _ hep0 (e7 _ _ hm6.1)
    have hni : ws[i] ∉ ms.map (·.1) := by
      rw [hms]
      intro z
      obtain ⟨m, hm, e9⟩ := List.mem_iff_getElem.mp z
      rw [List.getElem_take] at e9
      rw [List.length_take] at hm
      exact absurd ((List.getElem_inj hnd).mp e9) (by omega)
    have hml : ms.length ≤ 100 := by
      have := congrArg List.length hms
      rw [List.length_map, List.length_take] at this
      omega
    refine putR g4 (small (by unfold kvsM; rw [List.length_map]; omega)) ((hW _ _ _).mpr ⟨_, _, ms ++ [(ws[i], l, [])], rfl, trivial, dr8.upd he0 hep0, ⟨?_, fun m hm => ?_⟩, ?_, ?_, ?_, ?_⟩)
    · rw [upd_same, putM hni]
    · rcases List.mem_append.mp hm with z | z
      · obtain ⟨es2, a1, a2⟩ := hm6.2 m z
        exact ⟨es2, ((a1.ex e7).mono dr7.pot d8.ex).updK g4, a2⟩
      · rw [List.mem_singleton.mp z]
        exact ⟨es, hst.updK g4, hes⟩
    · rw [List.map_append, hms, List.take_add_one, List.getElem?_eq_getElem hi]
      rfl
    · rw [upd_ne (fun z => by rw [z, g4] at g1; cases g1)]; exact g1
    · rw [upd_ne (fun z => by rw [z, g4] at g2; cases g2)]; exact g2
    · rw [upd_ne (fun z => by rw [z, g4] at g3; cases g3)]; exact g3
  · intro σ' H' hw
    rw [List.length_map] at hw
    obtain ⟨x, y, ms, rfl, _, dr, hpr, hms, h1, h2, h3⟩ := (hW _ _ _).mp hw
    rw [List.take_length] at hms
    try simp only [tTup, is_ss, is_si, is_ii, is_ib, is_is, is_bs, is_ns, is_ni, is_nt, Bool.not_false, Bool.not_true, tSeq, tIfS, tRet, tRetN, tNext, tNever, tAsg, gName, tVar, tC, tOp, tUn, tCons, tNil, tCB, tCall, tTest, tB, tAnd, tOr, tNot, tAndV, tOrV, tNotV, tIf, tChain, rI0, rI, rU, rEq, rNe, List.map_cons, List.map_nil, List.length_cons, List.length_nil, List.replicate, List.cons_append, List.nil_append, List.append_nil, List.getElem?_cons_zero, List.getElem?_cons_succ, List.set_cons_zero, List.set_cons_succ, Option.some.injEq, exists_eq_left', exists_eq_left, exists_eq_right, V.str.injEq, V.int.injEq, V.bl.injEq, V.ref.injEq, V.ty.injEq, List.cons.injEq, and_true, true_and, exists_and_left, Nat.zero_add, Nat.add_sub_cancel, Nat.sub_self, Nat.succ_sub_succ_eq_sub, Nat.reduceSub, Nat.reduceAdd, Nat.sub_zero, tYes, tSl, tPart, tNoPart, if_true, Bool.false_eq_true, if_false, reduceCtorEq, false_and, exists_false, or_false, false_or, scal, tLc_eq, tFor_eq, iStr, iList, iTup, RZ.iZipA, decide_false, decide_true, tM1, tM0, tDrop, tAug, ipI]
    refine ⟨Nat.le_of_ble_eq_true rfl, fun q hq => ?_⟩
    have eq := Ex.new (o := .tup [V.ref e, V.ref lb]) hq
    have hml : ms.length = ws.length := by rw [← List.length_map (f := (·.1)), hms]
    refine hQ _ q e lb ms (dr.then eq) upd_same ⟨eq _ _ hpr.1, fun m hm => let ⟨es, a1, a2⟩ := hpr.2 m hm; ⟨es, a1.ex eq, a2⟩⟩ (by omega) (by rw [hms]; exact hnd) fun m hm => hw10 _ (by rw [← hms]; exact List.mem_map_of_mem hm)

end K17

-- text K17R6
set_option maxHeartbeats 8000000
namespace K17
open PySem PySem.Spec PyProof.Rows L2 Evl
variable {P : Program} {w : World} {K : PySem.W.Frag} {mg : Str → Option Value} {base : Heap} {d : Ad}
/-! ## the generator: a line, a changed text -/
def tot (ys : List Str) : Nat := (ys.map fun y => y.length + 1).sum
theorem tot_cons (y : Str) (ys : List Str) : tot (y :: ys) = y.length + 1 + tot ys := by unfold tot; rw [List.map_cons, List.sum_cons]
theorem tot_append (xs ys : List Str) : tot (xs ++ ys) = tot xs + tot ys := by unfold tot; rw [List.map_append, List.sum_append]
theorem tot_sum (ys : List Str) : (ys.map (·.length)).sum + ys.length = tot ys := by
  induction ys with
  | nil => rfl
  | cons a r ih => rw [tot_cons, List.map_cons, List.sum_cons, List.length_cons]; omega
theorem tot_split (ys : List Str) (k : Nat) : tot (ys.take k) + tot (ys.drop k) = tot ys := by rw [← tot_append, List.take_append_drop]
theorem tot_mem {ys : List Str} {y : Str} (h : y ∈ ys) : y.length + 1 ≤ tot ys := by
  induction ys with
  | nil => cases h
  | cons a r ih =>
    rw [tot_cons]
    rcases List.mem_cons.mp h with e | e
    · rw [e]; omega
    · have := ih e; omega
theorem tot_set : ∀ {ys : List Str} {k : Nat} (h : k < ys.length) (v : Str), tot (ys.set k v) + (ys[k].length + 1) = tot ys + (v.length + 1)
  | a :: r, 0, _, v => by rw [List.set_cons_zero, tot_cons, tot_cons, List.getElem_cons_zero]; omega
  | a :: r, k + 1, h, v => by
    have hk : k < r.length := by simpa using h
    have q := tot_set hk v
    rw [List.set_cons_succ, tot_cons, tot_cons, List.getElem_cons_succ]
    omega
theorem cut_tot (s : Nat) : ∀ l : List Nat, ((cut s l).map fun p => p.length + 1).sum = l.length + 1 := by
  intro l
  induction l with
  | nil => rfl
  | cons c r ih =>
    have ht := head_tail ([] : List Nat) (cut_ne s r)
    rw [← ht, List.map_cons, List.sum_cons] at ih
    by_cases h : c = s
    · subst h
      rw [cut_hit, List.map_cons, List.sum_cons, ← ht, List.map_cons, List.sum_cons, List.length_cons]
      simp only [List.length_nil]
      omega
    · rw [cut_miss r h, List.map_cons, List.sum_cons, List.length_cons, List.length_cons]
      omega
theorem tot_lines (x : Str) : tot (linesS x) = x.length + 1 := by
  have h := cut_tot 10 (tl x)
  rw [← lines_tl, List.map_map] at h
  rw [show x.length = (tl x).length from TL.len_tl x, ← h]
  unfold tot
  congr 1
theorem join_le (ys : List Str) : (Txt.join (Str.ofString "\n") ys).length ≤ tot ys := by
  rw [show (Txt.join (Str.ofString "\n") ys).length = _ from TL.len_tl _, TL.join_eq, TL.tl_join, show TL.tl (Str.ofString "\n") = [10] from tl_nl]
  induction ys with
  | nil => exact Nat.zero_le _
  | cons a r ih =>
    rw [tot_cons]
    cases r with
    | nil =>
      show (TL.tl a).length ≤ _
      rw [← TL.len_tl]
      omega
    | cons b r =>
      show (TL.tl a ++ ([10] ++ TL.joinL [10] ((b :: r).map TL.tl))).length ≤ _
      rw [List.length_append, List.length_append, ← TL.len_tl]
      have e1 : ([10] : List Nat).length = 1 := rfl
      omega
theorem cut_back {xs : List V} {k : Nat} : cutV xs (some (k : Int)) none = xs.drop k := by
  unfold cutV
  rw [HT.sIx_none, show HT.sIx xs.length 0 (some (k : Int)) = min k xs.length from HT.sIx_nat _ 0 k]
  by_cases h : k ≤ xs.length
  · rw [Nat.min_eq_left h, List.take_of_length_le (by rw [List.length_drop]; omega)]
  · rw [Nat.min_eq_right (by omega), List.drop_of_length_le (by omega), List.drop_of_length_le (by omega)]
    simp
def spLine : Sp := fun vs H Q _ => ∃ (p r : Addr) (ys : List Str) (B : Nat), vs = [.ref p, .ref r] ∧ Pot H p ∧ r ≠ p ∧ H r = some (.lst (ys.map V.str)) ∧ 0 < ys.length ∧ ys.length ≤ 3000000 ∧ 20 ≤ B ∧ (∀ y ∈ ys, y.length ≤ B) ∧ ∀ H' x, Dr p H H' → x.length ≤ B → Q (.str x) H'
theorem o__law_line (T : Tx w K mg d) (F : Fd K mg "_law_line" s_L_line []) (o__law_choice : Ok0 P w K mg base 4 "_law_choice" ["_law_pot_here", "_law_options"] (spChoice K)) : Ok0 P w K mg base 5 "_law_line" ["_law_pot_here", "_law_rows"] spLine := by
  refine mkOk 4 F sc_L_line (fun _ _ _ _ _ _ us hl => match us, hl with | [_, _], _ => rfl) (fun vs H Q E h => by obtain ⟨_, _, _, _, rfl, _⟩ := h; rfl) fun f cdv A outer s H vs Q E hr h => ?_
  obtain ⟨p, r, ys, B, rfl, hp, hrp, hr0, h0, h1, hB, hys, hQ⟩ := h
  refine ⟨_, PSs.nox (pss_cons (ps_set (i := 2) sc_L_line.nd rfl (.inl rfl) (pe_lst (pa_cons pe_str (pa_cons pe_str (pa_cons pe_str (pa_cons pe_str (pa_cons pe_str (pa_cons pe_str (pa_cons pe_str (pa_cons pe_str pa_nil))))))))))
    (pss_cons (ps_set (i := 2) sc_L_line.nd rfl (.inl rfl) (pe_op op_cat (pv 2) (pe_lst (pa_cons pe_str (pa_cons pe_str (pa_cons pe_str (pa_cons pe_str (pa_cons pe_str (pa_cons pe_str (pa_cons pe_str pa_nil))))))))))
    (pss_cons (ps_set (i := 2) sc_L_line.nd rfl (.inl rfl) (pe_op op_cat (pv 2) (pe_lst (pa_cons pe_str (pa_cons pe_str (pa_cons pe_str (pa_cons pe_str (pa_cons pe_str (pa_cons pe_str pa_nil)))))))))
    (pss_one (ps_ret (pe_c o__law_choice (hr.mono (by decide)) pass0 (pa_cons (pv 0) (pa_cons (pe_op op_cat (pv 2) (pe_lst (pa_cons (pe_c o__law_choice (hr.mono (by decide)) pass0 (pa_cons (pv 0) (pa_cons (pv 1) pa_nil))) pa_nil))) pa_nil)))))))), ?_⟩
  try simp only [tLst, n_L_line, L2.start, cxK, cxW, cxK', cxW', is_ss, is_si, is_ii, is_ib, is_is, is_bs, is_ns, is_ni, is_nt, Bool.not_false, Bool.not_true, tSeq, tIfS, tRet, tRetN, tNext, tNever, tAsg, gName, tVar, tC, tOp, tUn, tCons, tNil, tCB, tCall, tTest, tB, tAnd, tOr, tNot, tAndV, tOrV, tNotV, tIf, tChain, rI0, rI, rU, rEq, rNe, List.map_cons, List.map_nil, List.length_cons, List.length_nil, List.replicate, List.cons_append, List.nil_append, List.append_nil, List.getElem?_cons_zero, List.getElem?_cons_succ, List.set_cons_zero, List.set_cons_succ, Option.some.injEq, exists_eq_left', exists_eq_left, exists_eq_right, V.str.injEq, V.int.injEq, V.bl.injEq, V.ref.injEq, V.ty.injEq, List.cons.injEq, and_true, true_and, exists_and_left, Nat.zero_add, Nat.add_sub_cancel, Nat.sub_self, Nat.succ_sub_succ_eq_sub, Nat.reduceSub, Nat.reduceAdd, Nat.sub_zero, tYes, tSl, tPart, tNoPart, if_true, Bool.false_eq_true, if_false, reduceCtorEq, false_and, exists_false, or_false, false_or, scal, tLc_eq, tFor_eq, iStr, iList, iTup, RZ.iZipA, decide_false, decide_true, tM1, tM0, tDrop, tAug, ipI]
  generalize hL1 : [V.str (Str.ofString "module a"), V.str (Str.ofString "module zzzzzzzz"), V.str (Str.ofString "module"), V.str (Str.ofString "module A"), V.str (Str.ofString "module a b"), V.str (Str.ofString "Module a"), V.str (Str.ofString " fail"), V.str (Str.ofString "  fail")] = L1
  generalize hL2 : [V.str (Str.ofString "  skip a 1"), V.str (Str.ofString "  skip a 29"), V.str (Str.ofString "  need a"), V.str (Str.ofString "  need zzzzzzzz"), V.str (Str.ofString "  read a a x"), V.str (Str.ofString ""), V.str (Str.ofString "  ")] = L2
  generalize hL3 : [V.str (Str.ofString "   fail"), V.str (Str.ofString "  set a 01"), V.str (Str.ofString "fail"), V.str (Str.ofString "  set e 1"), V.str (Str.ofString "  try a a"), V.str (Str.ofString "  module a")] = L3
  have key : ∀ y ∈ [Str.ofString "module a", Str.ofString "module zzzzzzzz", Str.ofString "module", Str.ofString "module A", Str.ofString "module a b", Str.ofString "Module a", Str.ofString " fail", Str.ofString "  fail", Str.ofString "  skip a 1", Str.ofString "  skip a 29", Str.ofString "  need a", Str.ofString "  need zzzzzzzz", Str.ofString "  read a a x", Str.ofString "", Str.ofString "  ",
    Str.ofString "   fail", Str.ofString "  set a 01", Str.ofString "fail", Str.ofString "  set e 1", Str.ofString "  try a a", Str.ofString "  module a"], y.length ≤ 20 := by decide +kernel
  have hL : L1 ++ L2 ++ L3 = [Str.ofString "module a", Str.ofString "module zzzzzzzz", Str.ofString "module", Str.ofString "module A", Str.ofString "module a b", Str.ofString "Module a", Str.ofString " fail", Str.ofString "  fail", Str.ofString "  skip a 1", Str.ofString "  skip a 29", Str.ofString "  need a", Str.ofString "  need zzzzzzzz", Str.ofString "  read a a x", Str.ofString "", Str.ofString "  ",
    Str.ofString "   fail", Str.ofString "  set a 01", Str.ofString "fail", Str.ofString "  set e 1", Str.ofString "  try a a", Str.ofString "  module a"].map V.str := by rw [← hL1, ← hL2, ← hL3]; rfl
  have n1 : L1.length = 8 := by rw [← hL1]; rfl
  have n2 : L2.length = 7 := by rw [← hL2]; rfl
  have n3 : L3.length = 6 := by rw [← hL3]; rfl
  refine ⟨Nat.le_of_ble_eq_true rfl, fun a1 ha1 => ⟨Nat.le_of_ble_eq_true rfl, fun a2 ha2 => ?_⟩⟩
  have e1 := Ex.new (o := .lst L1) ha1
  have e2 := Ex.new (o := .lst L2) ha2
  refine catQ (e2 _ _ upd_same) upd_same (by rw [n1, n2]; exact Nat.le_of_ble_eq_true rfl) fun a3 ha3 => ⟨Nat.le_of_ble_eq_true rfl, fun a4 ha4 => ?_⟩
  have e3 := Ex.new (o := .lst (L1 ++ L2)) ha3
  have e4 := Ex.new (o := .lst L3) ha4
  refine catQ (e4 _ _ upd_same) upd_same (by rw [List.length_append, n1, n2, n3]; exact Nat.le_of_ble_eq_true rfl) fun a5 ha5 => ?_
  have e5 := Ex.new (o := .lst (L1 ++ L2 ++ L3)) ha5
  have ee := (((e1.trans e2).trans e3).trans e4).trans e5
  have a5p := ((((hp.ex e1).ex e2).ex e3).ex e4).ne ha5
  refine ⟨p, _, rfl, hp.ex ee, .inl ⟨r, _, rfl, hrp, ee _ _ hr0, by rw [List.length_map]; exact h0, by rw [List.length_map]; omega, fun H6 z d6 hz => ⟨Nat.le_of_ble_eq_true rfl, fun a6 ha6 => ?_⟩⟩⟩
  obtain ⟨y, hy, rfl⟩ := List.mem_map.mp hz
  have e7 := Ex.new (o := .lst [V.str y]) ha6
  refine catQ (e7 _ _ (d6.ex a5 _ a5p upd_same)) upd_same (by rw [List.length_append, List.length_append, n1, n2, n3]; exact Nat.le_of_ble_eq_true rfl) fun a7 ha7 => ?_
  have e8 := Ex.new (o := .lst (L1 ++ L2 ++ L3 ++ [V.str y])) ha7
  have dr : Dr p H _ := (Dr.after ee d6).then (e7.trans e8)
  have a7p := (d6.pot.ex e7).ne ha7
  refine ⟨p, _, rfl, dr.pot, .inl ⟨a7, _, rfl, a7p, upd_same, ?_, ?_, fun H9 v d9 hv => ?_⟩⟩
  · rw [List.length_append, List.length_append, List.length_append, n1, n2, n3]; exact Nat.le_of_ble_eq_true rfl
  · rw [List.length_append, List.length_append, List.length_append, n1, n2, n3]; exact Nat.le_of_ble_eq_true rfl
  · rcases List.mem_append.mp hv with z | z
    · rw [hL] at z
      obtain ⟨w1, hw1, rfl⟩ := List.mem_map.mp z
      exact hQ H9 w1 (dr.trans d9) (Nat.le_trans (key w1 hw1) hB)
    · rw [List.mem_singleton.mp z]
      exact hQ H9 y (dr.trans d9) (hys y hy)
theorem o__law_changed (T : Tx w K mg d) (F : Fd K mg "_law_changed" s_L_changed []) (o__law_draw : Ok0 P w K mg base 3 "_law_draw" ["_law_pot_here", "_law_bound"] spDraw) (o__law_choice : Ok0 P w K mg base 4 "_law_choice" ["_law_pot_here", "_law_options"] (spChoice K)) (o__law_line : Ok0 P w K mg base 5 "_law_line" ["_law_pot_here", "_law_rows"] spLine) :
    Ok0 P w K mg base 7 "_law_changed" ["_law_pot_here", "_law_shown"] (fun vs H Q _ => ∃ (p : Addr) (x : Str), vs = [.ref p, .str x] ∧ Pot H p ∧ x.length ≤ 1000000 ∧ ∀ H' y, Dr p H H' → y.length ≤ 2 * x.length + 30 → Q (.str y) H') := by
  refine mkOk 6 F sc_L_changed (fun _ _ _ _ _ _ us hl => match us, hl with | [_, _], _ => rfl) (fun vs H Q E h => by obtain ⟨_, _, rfl, _⟩ := h; rfl) fun f cdv A outer s H vs Q E hr h => ?_
  obtain ⟨p, x, rfl, hp, hx, hQ⟩ := h
  refine ⟨_, PSs.nox (pss_cut (ps_par3 (i := 2) (j := 3) (l := 4) rfl sc_L_changed.nd rfl rfl rfl (by decide) (by decide) (by decide) rfl rfl rfl (pa_cons (pe_split (pv 1) pe_str) (pa_cons (pe_c o__law_draw (hr.mono (by decide)) pass0 (pa_cons (pv 0) (pa_cons pe_int pa_nil))) (pa_cons (pe_c o__law_draw (hr.mono (by decide)) pass0 (pa_cons (pv 0) (pa_cons (pe_op op_add (pe_callB call_len_str (by rfl) T.b_len (by decide +kernel) (pa_cons (pv 1) pa_nil)) pe_int) pa_nil))) pa_nil))) rfl)
    (pss_cut (ps_par (i := 5) (j := 6) rfl sc_L_changed.nd rfl rfl (by decide) rfl rfl (pa_cons (pe_c o__law_draw (hr.mono (by decide)) pass0 (pa_cons (pv 0) (pa_cons (pe_callB call_len_seq (by rfl) T.b_len (by decide +kernel) (pa_cons (pv 2) pa_nil)) pa_nil))) (pa_cons (pe_c o__law_draw (hr.mono (by decide)) pass0 (pa_cons (pv 0) (pa_cons (pe_callB call_len_seq (by rfl) T.b_len (by decide +kernel) (pa_cons (pv 2) pa_nil)) pa_nil))) pa_nil)) rfl)
    (pss_cut (ps_set (i := 7) sc_L_changed.nd rfl (.inl rfl) (pe_c o__law_choice (hr.mono (by decide)) pass0 (pa_cons (pv 0) (pa_cons pe_str pa_nil))))
    (pss_cons (ps_if (pt_cmpR op_lt (pv 3) pe_int (nomark _)) (pss_one (ps_ret (pe_op op_add_str (pe_op op_add_str (pe_slice sl_str (pv 1) po_none (po_some (pv 4))) (pe_ix ix_list (pe_lst (pa_cons (pv 7) (pa_cons (pv 7) (pa_cons pe_str pa_nil)))) (pv 3) (fun _ _ => rfl))) (pe_slice sl_str (pv 1) (po_some (pe_op op_add (pv 4) (pe_ix ix_list (pe_lst (pa_cons pe_int (pa_cons pe_int (pa_cons pe_int pa_nil)))) (pv 3) (fun _ _ => rfl)))) po_none)))) pss_nil)
    (pss_cons (ps_if (pt_cmpR op_eq (pv 3) pe_int (nomark _)) (pss_one (ps_ret (pe_join pe_str (pe_op op_cat (pe_slice sl_list (pv 2) po_none (po_some (pv 5))) (pe_slice sl_list (pv 2) (po_some (pe_op op_add (pv 5) pe_int)) po_none))))) pss_nil)
    (pss_cons (ps_if (pt_cmpR op_eq (pv 3) pe_int (nomark _)) (pss_one (ps_ret (pe_join pe_str (pe_op op_cat (pe_op op_cat (pe_slice sl_list (pv 2) po_none (po_some (pv 5))) (pe_lst (pa_cons (pe_ix ix_list (pv 2) (pv 6) (fun _ _ => rfl)) pa_nil))) (pe_slice sl_list (pv 2) (po_some (pv 5)) po_none))))) pss_nil)
    (pss_cons (ps_if (pt_cmpR op_eq (pv 3) pe_int (nomark _)) (pss_cons (ps_asg (pe_tup (pa_cons (pe_ix ix_list (pv 2) (pv 6) (fun _ _ => rfl)) (pa_cons (pe_ix ix_list (pv 2) (pv 5) (fun _ _ => rfl)) pa_nil))) (pg_tup (by rfl) (pgs_cons (pg_sub (pv 2) (pv 5) set_list) (pgs_cons (pg_sub (pv 2) (pv 6) set_list) pgs_nil))))
    (pss_one (ps_ret (pe_join pe_str (pv 2))))) pss_nil)
    (pss_cons (ps_if (pt_cmpR op_eq (pv 3) pe_int (nomark _)) (pss_one (ps_ret (pe_slice sl_str (pv 1) po_none (po_some (pe_un un_neg pe_int))))) pss_nil)
    (pss_one (ps_ret (pe_join pe_str (pe_op op_cat (pe_op op_cat (pe_slice sl_list (pv 2) po_none (po_some (pv 5))) (pe_lst (pa_cons (pe_c o__law_line (hr.mono (by decide)) pass0 (pa_cons (pv 0) (pa_cons (pv 2) pa_nil))) pa_nil))) (pe_slice sl_list (pv 2) (po_some (pe_op op_add (pv 5) (pe_ix ix_list (pe_lst (pa_cons pe_int (pa_cons pe_int (pa_cons pe_int pa_nil)))) (pe_op op_sub (pv 3) pe_int) (fun _ _ => rfl)))) po_none))))))))))))), ?_⟩
  try simp only [n_L_changed, L2.start, cxK, cxW, cxK', cxW', is_ss, is_si, is_ii, is_ib, is_is, is_bs, is_ns, is_ni, is_nt, Bool.not_false, Bool.not_true, tSeq, tIfS, tRet, tRetN, tNext, tNever, tAsg, gName, tVar, tC, tOp, tUn, tCons, tNil, tCB, tCall, tTest, tB, tAnd, tOr, tNot, tAndV, tOrV, tNotV, tIf, tChain, rI0, rI, rU, rEq, rNe, List.map_cons, List.map_nil, List.length_cons, List.length_nil, List.replicate, List.cons_append, List.nil_append, List.append_nil, List.getElem?_cons_zero, List.getElem?_cons_succ, List.set_cons_zero, List.set_cons_succ, Option.some.injEq, exists_eq_left', exists_eq_left, exists_eq_right, V.str.injEq, V.int.injEq, V.bl.injEq, V.ref.injEq, V.ty.injEq, List.cons.injEq, and_true, true_and, exists_and_left, Nat.zero_add, Nat.add_sub_cancel, Nat.sub_self, Nat.succ_sub_succ_eq_sub, Nat.reduceSub, Nat.reduceAdd, Nat.sub_zero, tYes, tSl, tPart, tNoPart, if_true, Bool.false_eq_true, if_false, reduceCtorEq, false_and, exists_false, or_false, false_or, scal, tLc_eq, tFor_eq, iStr, iList, iTup, RZ.iZipA, decide_false, decide_true, tM1, tM0, tDrop, tAug, ipI]
  have hll := lines_len x
  have hl0 : 0 < (linesS x).length := List.length_pos_iff.mpr (lines_ne x)
  have enl : (Str.ofString "\n").length = 1 := len_nl
  refine ⟨fun σ' H' => ∃ (rp : Addr) (way : Int) (at0 : Nat), σ' = [some (.ref p), some (.str x), some (.ref rp), some (.int way), some (.int (at0 : Int)), none, none, none] ∧ Dr p H H' ∧ H rp = none ∧ H' rp = some (.lst ((linesS x).map V.str)) ∧ 0 ≤ way ∧ way < 10 ∧ at0 ≤ x.length, ?_, ?_⟩
  · try simp only [tPar3, rNewStrs, is_ss, is_si, is_ii, is_ib, is_is, is_bs, is_ns, is_ni, is_nt, Bool.not_false, Bool.not_true, tSeq, tIfS, tRet, tRetN, tNext, tNever, tAsg, gName, tVar, tC, tOp, tUn, tCons, tNil, tCB, tCall, tTest, tB, tAnd, tOr, tNot, tAndV, tOrV, tNotV, tIf, tChain, rI0, rI, rU, rEq, rNe, List.map_cons, List.map_nil, List.length_cons, List.length_nil, List.replicate, List.cons_append, List.nil_append, List.append_nil, List.getElem?_cons_zero, List.getElem?_cons_succ, List.set_cons_zero, List.set_cons_succ, Option.some.injEq, exists_eq_left', exists_eq_left, exists_eq_right, V.str.injEq, V.int.injEq, V.bl.injEq, V.ref.injEq, V.ty.injEq, List.cons.injEq, and_true, true_and, exists_and_left, Nat.zero_add, Nat.add_sub_cancel, Nat.sub_self, Nat.succ_sub_succ_eq_sub, Nat.reduceSub, Nat.reduceAdd, Nat.sub_zero, tYes, tSl, tPart, tNoPart, if_true, Bool.false_eq_true, if_false, reduceCtorEq, false_and, exists_false, or_false, false_or, scal, tLc_eq, tFor_eq, iStr, iList, iTup, RZ.iZipA, decide_false, decide_true, tM1, tM0, tDrop, tAug, ipI]
    refine ⟨⟨_, rfl⟩, by rw [len_nl]; rfl, small' (by omega), fun q hq => ?_⟩
    have e1 : Ex H (upd H q (.lst ((linesS x).map V.str))) := Ex.new hq
    refine ⟨p, 10, rfl, hp.ex e1, by decide, by decide, fun H2 way d2 w0 w1 => ⟨small' (by omega), p, _, rfl, d2.pot, by omega, by omega, fun H3 k d3 k0 k1 => ?_⟩⟩
    obtain ⟨a0, rfl⟩ : ∃ n : Nat, k = (n : Int) := ⟨k.toNat, by omega⟩
    have hqp := hp.ne hq
    exact ⟨_, _, _, ⟨rfl, rfl, rfl⟩, q, way, a0, ⟨rfl, rfl, rfl⟩, Dr.after e1 (d2.trans d3), hq, (d2.trans d3).ex q _ hqp upd_same, w0, w1, by omega⟩
  rintro σ' H1 ⟨rp, way, at0, rfl, d1, hrp0, hrp1, w0, w1, hat⟩
  have hrpp := hp.ne hrp0
  refine ⟨fun σ' H' => ∃ (pl ot : Nat), σ' = [some (.ref p), some (.str x), some (.ref rp), some (.int way), some (.int (at0 : Int)), some (.int (pl : Int)), some (.int (ot : Int)), none] ∧ Dr p H H' ∧ H' rp = some (.lst ((linesS x).map V.str)) ∧ pl < (linesS x).length ∧ ot < (linesS x).length, ?_, ?_⟩
  · try simp only [tPar, is_ss, is_si, is_ii, is_ib, is_is, is_bs, is_ns, is_ni, is_nt, Bool.not_false, Bool.not_true, tSeq, tIfS, tRet, tRetN, tNext, tNever, tAsg, gName, tVar, tC, tOp, tUn, tCons, tNil, tCB, tCall, tTest, tB, tAnd, tOr, tNot, tAndV, tOrV, tNotV, tIf, tChain, rI0, rI, rU, rEq, rNe, List.map_cons, List.map_nil, List.length_cons, List.length_nil, List.replicate, List.cons_append, List.nil_append, List.append_nil, List.getElem?_cons_zero, List.getElem?_cons_succ, List.set_cons_zero, List.set_cons_succ, Option.some.injEq, exists_eq_left', exists_eq_left, exists_eq_right, V.str.injEq, V.int.injEq, V.bl.injEq, V.ref.injEq, V.ty.injEq, List.cons.injEq, and_true, true_and, exists_and_left, Nat.zero_add, Nat.add_sub_cancel, Nat.sub_self, Nat.succ_sub_succ_eq_sub, Nat.reduceSub, Nat.reduceAdd, Nat.sub_zero, tYes, tSl, tPart, tNoPart, if_true, Bool.false_eq_true, if_false, reduceCtorEq, false_and, exists_false, or_false, false_or, scal, tLc_eq, tFor_eq, iStr, iList, iTup, RZ.iZipA, decide_false, decide_true, tM1, tM0, tDrop, tAug, ipI]
    refine ⟨_, .inl (SqL.of hrp1), p, _, rfl, d1.pot, by rw [List.length_map]; omega, by rw [List.length_map]; omega, fun H2 a d2 a0 a1 => ?_⟩
    have hrp2 := d2.ex rp _ hrpp hrp1
    refine ⟨_, .inl (SqL.of hrp2), p, _, rfl, d2.pot, by rw [List.length_map]; omega, by rw [List.length_map]; omega, fun H3 b d3 b0 b1 => ?_⟩
    rw [List.length_map] at a1 b1
    obtain ⟨pl, rfl⟩ : ∃ n : Nat, a = (n : Int) := ⟨a.toNat, by omega⟩
    obtain ⟨ot, rfl⟩ : ∃ n : Nat, b = (n : Int) := ⟨b.toNat, by omega⟩
    exact ⟨_, _, ⟨rfl, rfl⟩, pl, ot, ⟨rfl, rfl⟩, (d1.trans d2).trans d3, d3.ex rp _ hrpp hrp2, by omega, by omega⟩
  rintro σ' H2 ⟨pl, ot, rfl, d2, hrp2, hpl, hot⟩
  refine ⟨fun σ' H' => ∃ c : Nat, σ' = [some (.ref p), some (.str x), some (.ref rp), some (.int way), some (.int (at0 : Int)), some (.int (pl : Int)), some (.int (ot : Int)), some (.str ⟨#[c]⟩)] ∧ Dr p H H' ∧ H' rp = some (.lst ((linesS x).map V.str)), ?_, ?_⟩
  · try simp only [is_ss, is_si, is_ii, is_ib, is_is, is_bs, is_ns, is_ni, is_nt, Bool.not_false, Bool.not_true, tSeq, tIfS, tRet, tRetN, tNext, tNever, tAsg, gName, tVar, tC, tOp, tUn, tCons, tNil, tCB, tCall, tTest, tB, tAnd, tOr, tNot, tAndV, tOrV, tNotV, tIf, tChain, rI0, rI, rU, rEq, rNe, List.map_cons, List.map_nil, List.length_cons, List.length_nil, List.replicate, List.cons_append, List.nil_append, List.append_nil, List.getElem?_cons_zero, List.getElem?_cons_succ, List.set_cons_zero, List.set_cons_succ, Option.some.injEq, exists_eq_left', exists_eq_left, exists_eq_right, V.str.injEq, V.int.injEq, V.bl.injEq, V.ref.injEq, V.ty.injEq, List.cons.injEq, and_true, true_and, exists_and_left, Nat.zero_add, Nat.add_sub_cancel, Nat.sub_self, Nat.succ_sub_succ_eq_sub, Nat.reduceSub, Nat.reduceAdd, Nat.sub_zero, tYes, tSl, tPart, tNoPart, if_true, Bool.false_eq_true, if_false, reduceCtorEq, false_and, exists_false, or_false, false_or, scal, tLc_eq, tFor_eq, iStr, iList, iTup, RZ.iZipA, decide_false, decide_true, tM1, tM0, tDrop, tAug, ipI]
    have key : 0 < (Str.ofString " -019abdemnu\n;=").length ∧ (Str.ofString " -019abdemnu\n;=").length ≤ 100 := by decide +kernel
    exact ⟨p, _, rfl, d2.pot, .inr ⟨_, rfl, key.1, key.2, fun H3 c d3 _ => ⟨c, rfl, d2.trans d3, d3.ex rp _ hrpp hrp2⟩⟩⟩
  rintro σ' H3 ⟨c, rfl, d3, hrp3⟩
  have htl := tot_lines x
  have fin : ∀ (zs : List Str) H' (l : Addr), Dr p H H' → H' l = some (.lst (zs.map V.str)) → tot zs ≤ 2 * x.length + 30 → ∃ ws : List Str, (SqL K H' l (ws.map V.str) ∨ SqT K H' l (ws.map V.str)) ∧ (ws.map fun x => x.length).sum + ws.length * (Str.ofString "\n").length ≤ 16777216 ∧ Q (.str (Txt.join (Str.ofString "\n") ws)) H' := fun zs H' l dr h ht =>
    ⟨zs, .inl (SqL.of h), by rw [enl, Nat.mul_one, tot_sum]; omega, hQ H' _ dr (Nat.le_trans (join_le zs) ht)⟩
  try simp only [tLst, tTup, rSlS, rSlL, is_ss, is_si, is_ii, is_ib, is_is, is_bs, is_ns, is_ni, is_nt, Bool.not_false, Bool.not_true, tSeq, tIfS, tRet, tRetN, tNext, tNever, tAsg, gName, tVar, tC, tOp, tUn, tCons, tNil, tCB, tCall, tTest, tB, tAnd, tOr, tNot, tAndV, tOrV, tNotV, tIf, tChain, rI0, rI, rU, rEq, rNe, List.map_cons, List.map_nil, List.length_cons, List.length_nil, List.replicate, List.cons_append, List.nil_append, List.append_nil, List.getElem?_cons_zero, List.getElem?_cons_succ, List.set_cons_zero, List.set_cons_succ, Option.some.injEq, exists_eq_left', exists_eq_left, exists_eq_right, V.str.injEq, V.int.injEq, V.bl.injEq, V.ref.injEq, V.ty.injEq, List.cons.injEq, and_true, true_and, exists_and_left, Nat.zero_add, Nat.add_sub_cancel, Nat.sub_self, Nat.succ_sub_succ_eq_sub, Nat.reduceSub, Nat.reduceAdd, Nat.sub_zero, tYes, tSl, tPart, tNoPart, if_true, Bool.false_eq_true, if_false, reduceCtorEq, false_and, exists_false, or_false, false_or, scal, tLc_eq, tFor_eq, iStr, iList, iTup, RZ.iZipA, decide_false, decide_true, tM1, tM0, tDrop, tAug, ipI]
  have hz1 : ∀ k, ((linesS x).take k).length ≤ 1000001 := fun k => by rw [List.length_take]; omega
  have hz2 : ∀ k, ((linesS x).drop k).length ≤ 1000001 := fun k => by rw [List.length_drop]; omega
  have hsp := tot_split (linesS x)
  have frontS : ∀ k : Nat, k < (linesS x).length → cutV ((linesS x).map V.str) none (some (k : Int)) = ((linesS x).take k).map V.str := fun k hk => by rw [cut_front (by rw [List.length_map]; omega), List.map_take]
  have backS : ∀ k : Nat, cutV ((linesS x).map V.str) (some (k : Int)) none = ((linesS x).drop k).map V.str := fun k => by rw [cut_back, List.map_drop]
  have hmem : ∀ (k : Nat) (h : k < (linesS x).length), (linesS x)[k].length ≤ x.length := fun k h => by
    have := tot_mem (List.getElem_mem h)
    omega
  have atR : ∀ k : Nat, (h : k < (linesS x).length) → atI ((linesS x).map V.str) (k : Int) = some (.str (linesS x)[k]) := fun k h => atN (by simp [h])
  by_cases c3 : way < 3
  · rw [if_pos (decide_eq_true c3)]
    have hc1 := cut_len x none (some (at0 : Int))
    refine ⟨small' (by omega), Nat.le_of_ble_eq_true rfl, fun q hq => ?_⟩
    have e4 := Ex.new (o := .lst [V.str ⟨#[c]⟩, V.str ⟨#[c]⟩, V.str (Str.ofString "")]) hq
    obtain ⟨z, hz, hm⟩ := atI_some (xs := [V.str ⟨#[c]⟩, V.str ⟨#[c]⟩, V.str (Str.ofString "")]) w0 c3
    refine ixL (SqL.of upd_same) hz ?_
    obtain ⟨y, rfl, hy⟩ : ∃ y : Str, z = .str y ∧ y.length ≤ 1 := by
      have l0 : (Str.ofString "").length = 0 := by decide +kernel
      simp only [List.mem_cons, List.not_mem_nil, or_false] at hm
      rcases hm with rfl | rfl | rfl
      · exact ⟨_, rfl, Nat.le_refl 1⟩
      · exact ⟨_, rfl, Nat.le_refl 1⟩
      · exact ⟨_, rfl, by omega⟩
    refine ⟨y, rfl, small' (by omega), Nat.le_of_ble_eq_true rfl, fun q2 hq2 => ?_⟩
    have e5 := Ex.new (o := .lst [V.int 0, V.int 1, V.int 1]) hq2
    obtain ⟨z2, hz2, hm2⟩ := atI_some (xs := [V.int 0, V.int 1, V.int 1]) w0 c3
    refine ixL (SqL.of upd_same) hz2 ?_
    obtain ⟨i, rfl⟩ : ∃ i : Int, z2 = .int i := by
      simp only [List.mem_cons, List.not_mem_nil, or_false] at hm2
      rcases hm2 with rfl | rfl | rfl <;> exact ⟨_, rfl⟩
    have hc2 := cut_len x (some ((at0 : Int) + i)) none
    have hl2 : (cutS x none (some (at0 : Int)) ++ y).length ≤ x.length + 1 := by rw [len_app]; omega
    refine ⟨i, rfl, small' (by omega), small' (by omega), hQ _ _ (d3.then (e4.trans e5)) ?_⟩
    rw [len_app]
    omega
  rw [if_neg (by rw [decide_eq_true_eq]; exact c3)]
  by_cases c4 : way = 3
  · rw [if_pos (decide_eq_true c4)]
    refine ⟨⟨_, rfl⟩, _, SqL.of hrp3, fun q hq => ?_⟩
    rw [frontS pl hpl]
    have e4 := Ex.new (o := .lst (((linesS x).take pl).map V.str)) hq
    refine ⟨_, SqL.of (e4 _ _ hrp3), fun q2 hq2 => ?_⟩
    rw [show (pl : Int) + 1 = ((pl + 1 : Nat) : Int) by omega, backS]
    have e5 := Ex.new (o := .lst (((linesS x).drop (pl + 1)).map V.str)) hq2
    refine catQ (e5 q _ upd_same) upd_same (by rw [List.length_map, List.length_map]; have := hz1 pl; have := hz2 (pl + 1); exact small' (by omega)) fun q3 hq3 => ⟨q3, rfl, ?_⟩
    refine fin ((linesS x).take pl ++ (linesS x).drop (pl + 1)) _ q3 (d3.then ((e4.trans e5).trans (Ex.new hq3))) (by rw [upd_same, List.map_append]) ?_
    have := hsp pl
    have h2 := tot_split ((linesS x).drop pl) 1
    rw [List.drop_drop] at h2
    rw [tot_append]
    omega
  rw [if_neg (by rw [decide_eq_true_eq]; exact c4)]
  by_cases c5 : way = 4
  · rw [if_pos (decide_eq_true c5)]
    refine ⟨⟨_, rfl⟩, _, SqL.of hrp3, fun q hq => ?_⟩
    rw [frontS pl hpl]
    have e4 := Ex.new (o := .lst (((linesS x).take pl).map V.str)) hq
    refine ixL (SqL.of (e4 _ _ hrp3)) (atR ot hot) ⟨Nat.le_of_ble_eq_true rfl, fun q2 hq2 => ?_⟩
    have e5 := Ex.new (o := .lst [V.str (linesS x)[ot]]) hq2
    refine catQ (e5 q _ upd_same) upd_same (by rw [List.length_map]; have := hz1 pl; exact small' (by simp; omega)) fun q3 hq3 => ?_
    have e6 := Ex.new (o := .lst (((linesS x).take pl).map V.str ++ [V.str (linesS x)[ot]])) hq3
    refine ⟨_, SqL.of (e6 _ _ (e5 _ _ (e4 _ _ hrp3))), fun q4 hq4 => ?_⟩
    rw [backS]
    have e7 := Ex.new (o := .lst (((linesS x).drop pl).map V.str)) hq4
    refine catQ (e7 q3 _ upd_same) upd_same (by rw [List.length_append, List.length_map, List.length_map]; have := hz1 pl; have := hz2 pl; exact small' (by simp; omega)) fun q5 hq5 => ⟨q5, rfl, ?_⟩
    refine fin ((linesS x).take pl ++ [(linesS x)[ot]] ++ (linesS x).drop pl) _ q5 (d3.then ((((e4.trans e5).trans e6).trans e7).trans (Ex.new hq5))) (by rw [upd_same, List.map_append, List.map_append]; rfl) ?_
    have := hsp pl
    have := hmem ot hot
    rw [tot_append, tot_append, tot_cons, show tot [] = 0 from rfl]
    omega
  rw [if_neg (by rw [decide_eq_true_eq]; exact c5)]
  by_cases c6 : way = 5
  · rw [if_pos (decide_eq_true c6)]
    refine ixL (SqL.of hrp3) (atR ot hot) (ixL (SqL.of hrp3) (atR pl hpl) ⟨Nat.le_of_ble_eq_true rfl, fun q hq => ?_⟩)
    try simp only [gTup, gCons, gNil, gSub, is_ss, is_si, is_ii, is_ib, is_is, is_bs, is_ns, is_ni, is_nt, Bool.not_false, Bool.not_true, tSeq, tIfS, tRet, tRetN, tNext, tNever, tAsg, gName, tVar, tC, tOp, tUn, tCons, tNil, tCB, tCall, tTest, tB, tAnd, tOr, tNot, tAndV, tOrV, tNotV, tIf, tChain, rI0, rI, rU, rEq, rNe, List.map_cons, List.map_nil, List.length_cons, List.length_nil, List.replicate, List.cons_append, List.nil_append, List.append_nil, List.getElem?_cons_zero, List.getElem?_cons_succ, List.set_cons_zero, List.set_cons_succ, Option.some.injEq, exists_eq_left', exists_eq_left, exists_eq_right, V.str.injEq, V.int.injEq, V.bl.injEq, V.ref.injEq, V.ty.injEq, List.cons.injEq, and_true, true_and, exists_and_left, Nat.zero_add, Nat.add_sub_cancel, Nat.sub_self, Nat.succ_sub_succ_eq_sub, Nat.reduceSub, Nat.reduceAdd, Nat.sub_zero, tYes, tSl, tPart, tNoPart, if_true, Bool.false_eq_true, if_false, reduceCtorEq, false_and, exists_false, or_false, false_or, scal, tLc_eq, tFor_eq, iStr, iList, iTup, RZ.iZipA, decide_false, decide_true, tM1, tM0, tDrop, tAug, ipI]
    have e4 := Ex.new (o := .tup [V.str (linesS x)[ot], V.str (linesS x)[pl]]) hq
    have ixp : ∀ (n k : Nat), k < n → ixN n (k : Int) = some k := fun n k h => ixN_nat h
    have hl : ((linesS x).map V.str).length = (linesS x).length := List.length_map _
    refine ⟨_, SqT.of upd_same, rfl, _, _, rfl, rp, _, (pl : Int), pl, rfl, rfl, e4 _ _ hrp3, by rw [hl]; exact ixp _ _ hpl, _, _, rfl, rp, _, (ot : Int), ot, rfl, rfl, upd_same, by rw [List.length_set, hl]; exact ixp _ _ hot, rfl, ⟨_, rfl⟩, ?_⟩
    have hset : (((linesS x).map V.str).set pl (V.str (linesS x)[ot])).set ot (V.str (linesS x)[pl]) = (((linesS x).set pl (linesS x)[ot]).set ot (linesS x)[pl]).map V.str := by
      rw [List.map_set, List.map_set]
    refine fin (((linesS x).set pl (linesS x)[ot]).set ot (linesS x)[pl]) _ rp (((d3.then e4).upd hrp0 hrpp).upd hrp0 hrpp) (by rw [upd_same, hset]) ?_
    have t1 := tot_set hpl (linesS x)[ot]
    have hot2 : ot < ((linesS x).set pl (linesS x)[ot]).length := by rw [List.length_set]; exact hot
    have t2 := tot_set hot2 (linesS x)[pl]
    have e9 : ((linesS x).set pl (linesS x)[ot])[ot] = (linesS x)[ot] := by
      rw [List.getElem_set]
      split
      · rfl
      · rfl
    rw [e9] at t2
    omega
  rw [if_neg (by rw [decide_eq_true_eq]; exact c6)]
  by_cases c7 : way = 6
  · rw [if_pos (decide_eq_true c7)]
    exact ⟨small' (by omega), hQ _ _ d3 (by have := cut_len x none (some (-1)); omega)⟩
  rw [if_neg (by rw [decide_eq_true_eq]; exact c7)]
  refine ⟨⟨_, rfl⟩, _, SqL.of hrp3, fun q hq => ?_⟩
  rw [frontS pl hpl]
  have e4 := Ex.new (o := .lst (((linesS x).take pl).map V.str)) hq
  have d4 := d3.then e4
  have hqp := d3.pot.ne hq
  refine ⟨p, rp, linesS x, max 20 x.length, rfl, d4.pot, hrpp, e4 _ _ hrp3, hl0, by omega, Nat.le_max_left _ _, fun y hy => Nat.le_trans (by have := tot_mem hy; omega) (Nat.le_max_right 20 x.length), fun H5 y d5 hy => ⟨Nat.le_of_ble_eq_true rfl, fun q2 hq2 => ?_⟩⟩
  have hq5 := d5.ex q _ hqp upd_same
  have hrp5 := d5.ex rp _ hrpp (e4 _ _ hrp3)
  have e6 := Ex.new (o := .lst [V.str y]) hq2
  have d6 := (d4.trans d5).then e6
  refine catQ (e6 _ _ hq5) upd_same (by rw [List.length_map]; have := hz1 pl; exact small' (by simp; omega)) fun q3 hq3 => ?_
  have e7 := Ex.new (o := .lst (((linesS x).take pl).map V.str ++ [V.str y])) hq3
  refine ⟨Nat.le_of_ble_eq_true rfl, fun q4 hq4 => ?_⟩
  have e8 := Ex.new (o := .lst [V.int 0, V.int 1, V.int 1]) hq4
  obtain ⟨z2, hz2', hm2⟩ := atI_some (xs := [V.int 0, V.int 1, V.int 1]) (i := way - 7) (by omega) (by show way - 7 < 3; omega)
  refine ixL (SqL.of upd_same) hz2' ?_
  obtain ⟨i, rfl⟩ : ∃ i : Nat, z2 = .int (i : Int) := by
    simp only [List.mem_cons, List.not_mem_nil, or_false] at hm2
    rcases hm2 with rfl | rfl | rfl
    · exact ⟨0, rfl⟩
    · exact ⟨1, rfl⟩
    · exact ⟨1, rfl⟩
  refine ⟨_, rfl, _, SqL.of (e8 _ _ (e7 _ _ (e6 _ _ hrp5))), fun q5 hq5 => ?_⟩
  rw [show (pl : Int) + (i : Int) = ((pl + i : Nat) : Int) by omega, backS]
  have e9 := Ex.new (o := .lst (((linesS x).drop (pl + i)).map V.str)) hq5
  refine catQ (e9 q3 _ (e8 _ _ upd_same)) upd_same (by rw [List.length_append, List.length_map, List.length_map]; have := hz1 pl; have := hz2 (pl + i); exact small' (by simp; omega)) fun q6 hq6 => ⟨q6, rfl, ?_⟩
  refine fin ((linesS x).take pl ++ [y] ++ (linesS x).drop (pl + i)) _ q6 (d6.then (((e7.trans e8).trans e9).trans (Ex.new hq6))) (by rw [upd_same, List.map_append, List.map_append]; rfl) ?_
  have := hsp pl
  have h2 := tot_split ((linesS x).drop pl) i
  rw [List.drop_drop] at h2
  rw [tot_append, tot_append, tot_cons, show tot [] = 0 from rfl]
  omega

end K17

-- text K17L1
set_option maxHeartbeats 8000000
namespace K17
open PySem PySem.Spec PyProof.Rows L2 Evl
variable {P : Program} {w : World} {K : PySem.W.Frag} {mg : Str → Option Value} {base : Heap} {d : Ad}
/-! ## own rules for law: text * int, a token is gained -/
section
variable {X : Cx}
theorem op_smul : OpR X (binaryOp .Mult) (fun x y H Q => ∃ (z : Str) (n : Int), x = .str z ∧ y = .int n ∧ MulOk z n ∧ Q (.str (Txt.mul z n)) H) := by
  intro pins s σ H x y v u Q I rx ry h
  obtain ⟨z, n, rfl, rfl, hm, q⟩ := h
  obtain ⟨t, rfl⟩ := rx
  obtain ⟨t2, rfl⟩ := ry
  exact SB.mul hm fun t' k => ⟨.str (Txt.mul z n), H, I.tok k, ⟨t', rfl⟩, q⟩
variable {e : Expr} {te : TE} {rest : List Stmt} {u : TS}
/-- x = 'c'.m(e): behind it a token is out -/
theorem pss_gain {i j : Nat} {x c : Str} {cpos apos pos pos' spos : Pos} {id : String} {name : Str} {r : V → List V → Hp → VK → Prop} (hN : X.N.Nodup) (hi : X.N[i]? = some x) (hx : Loc X.env.scope x) (slot : Slot "str" name id) (ty : typeOf (.builtin id) = pure (.type "method_descriptor")) (rule : MtR X id r) (he : PE X e te) (h2 : PSsT X rest u)
    (hs : swapsWith (.Call (.Attribute (.Constant (.str c) j cpos) name apos) [e] [] pos) (some (.Name x pos')) spos.line X.env = pure false := by rfl)
    (hst : starEach [e] X.env = [(false, eval e X.env)] := by rfl) (hbase : attributeBase (.Constant (.str c) j cpos) name X.env (eval (.Constant (.str c) j cpos) X.env) = eval (.Constant (.str c) j cpos) X.env := by rfl) (hline : (apos.endLine == pos.line) = true := by rfl)
    (hf : X.fn x = true ∨ X.env.scope.names.lookup x = some .local := by first | exact .inl rfl | exact .inr rfl | assumption) :
    PSs X (.Assign [.Name x pos'] (.Call (.Attribute (.Constant (.str c) j cpos) name apos) [e] [] pos) spos :: rest) (tSeq (tAsg (tM1 r (tC (.str c)) te) (gName i)) u) := by
  refine ⟨fun pins s σ H D I h => ?_⟩
  refine wpAny_execs_cons (wpAny_Assign_Name (PySem.Call_method1 hbase hst hline (Calls.Constant_str ?_)) hs)
  obtain ⟨_, q1⟩ := h
  refine ⟨"str", _, F.plainAttrs_str, slot, ty, typeIs_str _ _ _, (fun _ e => nomatch e), Calls.callWith_builtin rfl (Calls.evalArgs_plain (Calls.spliced_cons (tk (by show 1 ≤ s.toks + 1; omega) (he.run pins { s with toks := s.toks + 1 } σ H _ (I.tok _) q1) fun v1 s2 t2 ⟨y, H2, I2, r2, q2⟩ => ?_)))⟩
  refine Calls.spliced_nil (tk t2 (rule pins s2 σ H2 _ [y] _ [v1] _ I2 (show RelV (V.str c) (Value.str c s.toks) from ⟨s.toks, rfl⟩) (.cons r2 .nil) q2) fun v3 s3 t3 ⟨x3, H3, I3, r3, q3⟩ => ?_)
  refine tk t3 (store_ok (v := x3) (Q := fun _ s4 => Inv X pins (σ.set i (some x3)) H3 s4) I3 hN hi hx r3 (fun _ I4 => I4) hf) fun _ s4 t4 I4 => ?_
  exact h2 pins s4 _ H3 D t4 I4 q3
theorem pe_joinB {X : Cx} (K : PySem.W.Frag) {o e : Expr} {to te : TE} {apos pos : Pos} (ho : PE X o to) (he : PE X e te) (hs : starEach [e] X.env = [(false, eval e X.env)] := by rfl) (hbase : attributeBase o "join" X.env (eval o X.env) = eval o X.env := by rfl) (hline : (apos.endLine == pos.line) = true := by rfl) (hK : X.K = K := by rfl) :
    PE X (.Call (.Attribute o "join" apos) [e] [] pos) (tM1 (fun x xs H Q => ∃ a p, ∃ ys : List Str, x = .str a ∧ xs = [.ref p] ∧ (SqL K H p (ys.map V.str) ∨ SqT K H p (ys.map V.str)) ∧ (ys.map (·.length)).sum + ys.length * a.length ≤ 16777216 ∧ Q (.str (Txt.join a ys)) H) to te) :=
  hK ▸ pe_join ho he hs hbase hline
theorem pit_of {X : Cx} {tg it : Expr} {wi : TI} (h : PI X tg it wi) : PIT X tg it wi := fun pins s σ H R _ I q => h.run pins s σ H R I q
end

end K17

-- text K17L2
set_option maxHeartbeats 8000000
namespace K17
open PySem PySem.Spec PyProof.Rows L2 Evl
variable {P : Program} {w : World} {K : PySem.W.Frag} {mg : Str → Option Value} {base : Heap} {d : Ad}
/-! ## law -/
theorem psn_of {n : Nat} {X : Cx} {b : List Stmt} {t : TS} (h : PSs X b t) : PSsN n X b t := fun pins s σ H D _ I q => h.run pins s σ H D I q
/-- behind the law's entry only the pot was written -/
structure Gr (H : Hp) (p : Addr) (H' : Hp) : Prop where
  ex : Ex H H'
  np : H p = none
  pot : Pot H' p
theorem Gr.dr {H H1 H2 : Hp} {p : Addr} (g : Gr H p H1) (d : Dr p H1 H2) : Gr H p H2 := ⟨fun b o h => d.ex b o (fun z => by rw [z, g.np] at h; cases h) (g.ex b o h), g.np, d.pot⟩
theorem Gr.then {H H1 H2 : Hp} {p : Addr} (g : Gr H p H1) (e : Ex H1 H2) : Gr H p H2 := ⟨g.ex.trans e, g.np, g.pot.ex e⟩
theorem ProgsAt.ex {n : Nat} {H H1 : Hp} {e : Addr} {ms : List Mo} (h : ProgsAt n H e ms) (x : Ex H H1) : ProgsAt n H1 e ms := ⟨x _ _ h.1, fun m hm => let ⟨es, a1, a2⟩ := h.2 m hm; ⟨es, a1.ex x, a2⟩⟩
def fS : Nat → Nat
  | 0 => 112720
  | j + 1 => 2 * fS j + 30
theorem fS_le : ∀ j, j ≤ 3 → fS j ≤ 901970
  | 0, _ => by decide
  | 1, _ => by decide
  | 2, _ => by decide
  | 3, _ => by decide
  | j + 4, h => by omega
def stepS (t : List V) : Str := Str.ofString "  " ++ Txt.join (Str.ofString " ") (t.map showV) ++ Str.ofString "\n"
theorem joinB_le (ys : List Str) : (Txt.join (Str.ofString " ") ys).length ≤ tot ys := by
  rw [show (Txt.join (Str.ofString " ") ys).length = _ from TL.len_tl _, TL.join_eq, TL.tl_join, show TL.tl (Str.ofString " ") = [32] from tl_blank]
  induction ys with
  | nil => exact Nat.zero_le _
  | cons a r ih =>
    rw [tot_cons]
    cases r with
    | nil =>
      show (TL.tl a).length ≤ _
      rw [← TL.len_tl]
      omega
    | cons b r =>
      show (TL.tl a ++ ([32] ++ TL.joinL [32] ((b :: r).map TL.tl))).length ≤ _
      rw [List.length_append, List.length_append, ← TL.len_tl]
      have e1 : ([32] : List Nat).length = 1 := rfl
      omega
theorem part_len {v : V} (h : PartV v) : (showV v).length ≤ 33 := by
  rcases h with ⟨x, rfl, hx⟩ | ⟨n, rfl, hn⟩
  · exact Nat.le_trans hx (by decide)
  · have h1 : (TL.numL n.natAbs).length ≤ 31 := TL.numL_len (by decide) hn
    show (Str.ofString (toString n)).length ≤ 33
    rw [show (Str.ofString (toString n)).length = _ from TL.len_tl _, int_text]
    split
    · rw [List.length_cons]; omega
    · omega
theorem tot_le {ls : List Str} {B : Nat} (h : ∀ y ∈ ls, y.length ≤ B) : tot ls ≤ ls.length * (B + 1) := by
  induction ls with
  | nil => exact Nat.zero_le _
  | cons a r ih =>
    have := ih fun y hy => h y (List.mem_cons_of_mem _ hy)
    have := h a List.mem_cons_self
    rw [tot_cons, List.length_cons, Nat.succ_mul]
    omega
theorem sum_le {ls : List Str} {B : Nat} (h : ∀ y ∈ ls, y.length ≤ B) : (ls.map (·.length)).sum ≤ ls.length * B := by
  induction ls with
  | nil => exact Nat.zero_le _
  | cons a r ih =>
    have := ih fun y hy => h y (List.mem_cons_of_mem _ hy)
    have := h a List.mem_cons_self
    rw [List.map_cons, List.sum_cons, List.length_cons, Nat.succ_mul]
    omega
theorem step_len {t : List V} (h : StepV t) : tot (t.map showV) ≤ 136 ∧ (stepS t).length ≤ 140 ∧ (Txt.join (Str.ofString " ") (t.map showV)).length ≤ 136 := by
  have h1 : tot (t.map showV) ≤ (t.map showV).length * 34 := tot_le fun y hy => by
    obtain ⟨v, hv, rfl⟩ := List.mem_map.mp hy
    exact part_len (h.part v hv)
  have h2 := h.few
  rw [List.length_map] at h1
  have h3 := joinB_le (t.map showV)
  have l2 : (Str.ofString "  ").length = 2 := by decide +kernel
  refine ⟨by omega, ?_, by omega⟩
  unfold stepS
  rw [len_app, len_app, l2, len_nl]
  omega
def manyS (i : Nat) : Str := Str.ofString "module " ++ (⟨#[97 + i / 26]⟩ : Str) ++ (⟨#[97 + i % 26]⟩ : Str) ++ Str.ofString "\n"
def spLaw (K : PySem.W.Frag) : Sp := fun vs H Q _ => ∃ (a : Addr) (ns : List Int), vs = [.ref a] ∧ SqL K H a (ns.map V.int) ∧ ns.length ≤ 1000 ∧ ∀ H', Q (.bl true) H'
def spChanged : Sp := fun vs H Q _ => ∃ (p : Addr) (x : Str), vs = [.ref p, .str x] ∧ Pot H p ∧ x.length ≤ 1000000 ∧ ∀ H' y, Dr p H H' → y.length ≤ 2 * x.length + 30 → Q (.str y) H'
theorem o_law (T : Tx w K mg d) {f : Addr} {fd : FuncData} (F : FunD K "law" "law" (defArgs s_law) (defBody s_law) (defScope s_law) [] [] f fd) (o__law_pot : Ok0 P w K mg base 3 "_law_pot" ["_law_script", "_law_index"] (spPot K)) (o__law_draw : Ok0 P w K mg base 3 "_law_draw" ["_law_pot_here", "_law_bound"] spDraw)
    (o__law_modules : Ok0 P w K mg base 9 "_law_modules" ["_law_pot_here", "_law_most", "_law_longest", "_law_is_acyclic"] spMods2) (o__law_changed : Ok0 P w K mg base 7 "_law_changed" ["_law_pot_here", "_law_shown"] spChanged) (o__law_told : Ok0 P w K mg base 13 "_law_told" ["_law_thing"] (spTold K))
    (o__law_right : OkG P w K mg base 15 1 "_law_right" ["_law_shown"] spRight) : FnG P w K mg base 16 0 f fd ["_law_script"] (spLaw K) := by
  refine fnG 15 F sc_law (fun vs H Q h => by obtain ⟨_, _, rfl, _⟩ := h; rfl) fun f cdv A outer s H vs Q hr hgd h => ?_
  obtain ⟨a, ns, rfl, hs, hnl, hQ⟩ := h
  refine ⟨_, psn_of (PSs.nox (pss_cut (ps_for PassesOwn.never rfl (pi_range1 (by rfl) T.b_range (pa_cons (pe_callB (call_max2 rfl) (by rfl) T.b_max (by decide +kernel) (pa_cons pe_int (pa_cons (pe_callB (call_min2 rfl) (by rfl) T.b_min (by decide +kernel) (pa_cons (pe_callB call_len_seq (by rfl) T.b_len (by decide +kernel) (pa_cons (pv 0) pa_nil)) (pa_cons pe_int pa_nil))) pa_nil))) pa_nil)) (pg_name (i := 1) sc_law.nd rfl (.inl rfl)) (pss_cut (ps_set (i := 2) sc_law.nd rfl (.inl rfl) (pe_c o__law_pot (hr.mono (by decide)) pass0 (pa_cons (pv 0) (pa_cons (pv 1) pa_nil))))
    (pss_cut (ps_asg (pe_ix ix_list (pe_lst (pa_cons (pe_tup (pa_cons pe_int (pa_cons pe_int pa_nil))) (pa_cons (pe_tup (pa_cons pe_int (pa_cons pe_int pa_nil))) (pa_cons (pe_tup (pa_cons pe_int (pa_cons pe_int pa_nil))) pa_nil)))) (pe_ix ix_list (pe_lst (pa_cons pe_int (pa_cons pe_int (pa_cons pe_int (pa_cons pe_int (pa_cons pe_int (pa_cons pe_int (pa_cons pe_int pa_nil)))))))) (pe_c o__law_draw (hr.mono (by decide)) pass0 (pa_cons (pv 2) (pa_cons pe_int pa_nil))) (fun _ _ => rfl)) (fun _ _ => rfl)) (pg_two K (i := 3) (j := 4) sc_law.nd rfl rfl (.inl rfl) (.inl rfl) rfl))
    (pss_cut (ps_asg (pe_c o__law_modules (hr.mono (by decide)) pass0 (pa_cons (pv 2) (pa_cons (pv 4) (pa_cons (pv 3) (pa_cons pe_bl pa_nil))))) (pg_two K (i := 5) (j := 6) sc_law.nd rfl rfl (.inl rfl) (.inl rfl) rfl))
    (pss_str (i := 7) sc_law.nd rfl (.inl rfl)
    (psst_cons (PST.of (ps_for PassesOwn.never rfl (pi_list (pe_callB (call_sortedD rfl) (by rfl) T.b_sorted (by decide +kernel) (pa_cons (pv 5) pa_nil))) (pg_name (i := 8) sc_law.nd rfl (.inl rfl)) (pss_cons (ps_setLc (i := 9) (own := [("_law_step", 18)]) rfl sc_law.nd rfl rfl (sw_true rfl rfl rfl (by decide +kernel)) (pi_list (pe_dget (hu_of hr) (pv 5) (pv 8) (fun _ _ => rfl))) (blkOk_by (own := [("_law_step", 18)]) (N := n_law) (sc := defScope s_law) (by decide +kernel)) (fun _ _ _ _ _ => (pg_name (i := 18) sc_law.nd rfl (Or.inl rfl))) (fun _ _ _ _ _ => pts_nil) (fun _ _ _ _ _ => (pe_op op_add_str (pe_op op_add_str pe_str (pe_joinB K pe_str (by exact (pe_lc (own := [("_law_part", 19)]) rfl sc_law.nd (pi_tupB K (pv 18)) (blkOk_by (own := [("_law_part", 19)]) (by rfl)) (fun _ _ _ _ _ => (pg_name (i := 19) sc_law.nd rfl (Or.inl rfl))) (fun _ _ _ _ _ => pts_nil) (fun _ _ _ _ _ => (pe_callTy (CallR.or call_str_int SkE.call_str_str) (by rfl) T.b_str (by decide +kernel) (pa_cons (pv 19) pa_nil))))))) pe_str)))
    (pss_one (ps_set (i := 7) sc_law.nd rfl (.inl rfl) (pe_op op_add_str (pe_op op_add_str (pe_op op_add_str (pe_op op_add_str (pv 7) pe_str) (pv 8)) pe_str) (pe_join pe_str (pv 9))))))))
    (psst_cons (pst_ifT (ptt_not (ptt_val (pet_cG o__law_right (hr.mono (by decide)) hgd (pa_cons (pv 7) pa_nil)))) (PSsT.of (pss_one (ps_ret pe_bl))) (PSsT.of pss_nil))
    (psst_cons (pst_forT PassesOwn.never rfl (pi_range1 (by rfl) T.b_range (pa_cons pe_int pa_nil)) (pg_name (i := 10) sc_law.nd rfl (.inl rfl)) (psst_cons (PST.of (ps_set (i := 11) sc_law.nd rfl (.inl rfl) (pv 7)))
    (psst_cons (PST.of (ps_for PassesOwn.never rfl (pi_range1 (by rfl) T.b_range (pa_cons (pe_op op_add pe_int (pe_c o__law_draw (hr.mono (by decide)) pass0 (pa_cons (pv 2) (pa_cons pe_int pa_nil)))) pa_nil)) (pg_name (i := 12) sc_law.nd rfl (.inl rfl)) (pss_one (ps_set (i := 11) sc_law.nd rfl (.inl rfl) (pe_c o__law_changed (hr.mono (by decide)) pass0 (pa_cons (pv 2) (pa_cons (pv 11) pa_nil)))))))
    (psst_cons (pst_ifT (ptt_not (ptt_val (pet_cG o__law_right (hr.mono (by decide)) hgd (pa_cons (pv 11) pa_nil)))) (PSsT.of (pss_one (ps_ret pe_bl))) (PSsT.of pss_nil))
    (PSsT.of pss_nil)))))
    (PSsT.of pss_nil)))))))))
    (pss_cut (ps_for PassesOwn.never rfl (pi_list (pe_lst (pa_cons pe_non (pa_cons pe_int (pa_cons pe_bl (pa_cons (pe_lst pa_nil) (pa_cons (pe_tup pa_nil) (pa_cons pe_dnewK (pa_cons (pe_lst (pa_cons pe_str pa_nil)) (pa_cons (pe_tup (pa_cons pe_str pa_nil)) pa_nil)))))))))) (pg_name (i := 13) sc_law.nd rfl (.inl rfl)) (pss_one (ps_if (pt_cmpR op_ne (pe_c o__law_told (hr.mono (by decide)) pass0 (pa_cons (pv 13) pa_nil)) pe_int (nomark _)) (pss_one (ps_ret pe_bl)) pss_nil)))
    (pss_gain (i := 14) sc_law.nd rfl (.inl rfl) PySem.F.slot_str_join PySem.F.type_str_join mt_join (pe_lc (own := [("_law_at", 16)]) rfl sc_law.nd (pi_range1 (by rfl) T.b_range (pa_cons pe_int pa_nil)) (blkOk_by (own := [("_law_at", 16)]) (N := n_law) (sc := defScope s_law) (by decide +kernel)) (fun _ _ _ _ _ => (pg_name (i := 16) sc_law.nd rfl (Or.inl rfl))) (fun _ _ _ _ _ => pts_nil) (fun _ _ _ _ _ => (pe_op op_add_str (pe_op op_add_str (pe_op op_add_str pe_str (pe_ix ix_str pe_str (pe_op op_fdiv (pv 16) pe_int) (fun _ _ => rfl))) (pe_ix ix_str pe_str (pe_op op_mod (pv 16) pe_int) (fun _ _ => rfl))) pe_str)))
    (psst_cons (PST.of (ps_set (i := 15) sc_law.nd rfl (.inl rfl) (pe_lst (pa_cons pe_str (pa_cons pe_str (pa_cons pe_str (pa_cons (pv 14) (pa_cons (pe_slice sl_str (pv 14) po_none (po_some (pe_un un_neg pe_int))) (pa_cons (pe_op op_add_str pe_str (pe_op op_smul pe_str pe_int)) (pa_cons pe_str pa_nil))))))))))
    (psst_cons (CwR.pst_ret (pet_callB (cr_all rfl) (by rfl) T.b_all (by decide +kernel) (pat_one (pet_lc (own := [("_law_each", 17)]) rfl sc_law.nd (pit_of (pi_list (pv 15))) (blkOk_by (own := [("_law_each", 17)]) (N := n_law) (sc := defScope s_law) (by decide +kernel)) (fun _ _ _ _ _ => (pg_name (i := 17) sc_law.nd rfl (Or.inl rfl))) (fun _ _ _ _ _ => pts_nil) (fun _ _ _ _ _ => (pet_cG o__law_right (hr.mono (by decide)) hgd (pa_cons (pv 17) pa_nil)))))))
    (PSsT.of pss_nil))))))), ?_⟩
  try simp only [n_law, L2.start, cxK, cxW, cxK', cxW', is_ss, is_si, is_ii, is_ib, is_is, is_bs, is_ns, is_ni, is_nt, Bool.not_false, Bool.not_true, tSeq, tIfS, tRet, tRetN, tNext, tNever, tAsg, gName, tVar, tC, tOp, tUn, tCons, tNil, tCB, tCall, tTest, tB, tAnd, tOr, tNot, tAndV, tOrV, tNotV, tIf, tChain, rI0, rI, rU, rEq, rNe, List.map_cons, List.map_nil, List.length_cons, List.length_nil, List.replicate, List.cons_append, List.nil_append, List.append_nil, List.getElem?_cons_zero, List.getElem?_cons_succ, List.set_cons_zero, List.set_cons_succ, Option.some.injEq, exists_eq_left', exists_eq_left, exists_eq_right, V.str.injEq, V.int.injEq, V.bl.injEq, V.ref.injEq, V.ty.injEq, List.cons.injEq, and_true, true_and, exists_and_left, Nat.zero_add, Nat.add_sub_cancel, Nat.sub_self, Nat.succ_sub_succ_eq_sub, Nat.reduceSub, Nat.reduceAdd, Nat.sub_zero, tYes, tSl, tPart, tNoPart, if_true, Bool.false_eq_true, if_false, reduceCtorEq, false_and, exists_false, or_false, false_or, scal, tLc_eq, tFor_eq, iStr, iList, iTup, RZ.iZipA, decide_false, decide_true, tM1, tM0, tDrop, tAug, ipI]
  -- the scripts' rounds
  refine ⟨fun σ' H' => ∃ (x1 x2 x3 x4 x5 x6 x7 x8 x9 x10 x11 x12 x13 : Option V),  σ' = [some (.ref a), x1, x2, x3, x4, x5, x6, x7, x8, x9, x10, x11, x12, x13, none, none, none, none, none, none] ∧ Ex H H', ?_, ?_⟩
  · try simp only [iRng1, is_ss, is_si, is_ii, is_ib, is_is, is_bs, is_ns, is_ni, is_nt, Bool.not_false, Bool.not_true, tSeq, tIfS, tRet, tRetN, tNext, tNever, tAsg, gName, tVar, tC, tOp, tUn, tCons, tNil, tCB, tCall, tTest, tB, tAnd, tOr, tNot, tAndV, tOrV, tNotV, tIf, tChain, rI0, rI, rU, rEq, rNe, List.map_cons, List.map_nil, List.length_cons, List.length_nil, List.replicate, List.cons_append, List.nil_append, List.append_nil, List.getElem?_cons_zero, List.getElem?_cons_succ, List.set_cons_zero, List.set_cons_succ, Option.some.injEq, exists_eq_left', exists_eq_left, exists_eq_right, V.str.injEq, V.int.injEq, V.bl.injEq, V.ref.injEq, V.ty.injEq, List.cons.injEq, and_true, true_and, exists_and_left, Nat.zero_add, Nat.add_sub_cancel, Nat.sub_self, Nat.succ_sub_succ_eq_sub, Nat.reduceSub, Nat.reduceAdd, Nat.sub_zero, tYes, tSl, tPart, tNoPart, if_true, Bool.false_eq_true, if_false, reduceCtorEq, false_and, exists_false, or_false, false_or, scal, tLc_eq, tFor_eq, iStr, iList, iTup, RZ.iZipA, decide_false, decide_true, tM1, tM0, tDrop, tAug, ipI]
    refine ⟨_, .inl hs, _, _, ⟨rfl, rfl⟩, _, _, ⟨rfl, rfl⟩, ?_⟩
    rw [List.length_map]
    obtain ⟨n, hn, hn4⟩ : ∃ n : Nat, (if (if (4 : Int) < (ns.length : Int) then (4 : Int) else (ns.length : Int)) > 1 then (if (4 : Int) < (ns.length : Int) then (4 : Int) else (ns.length : Int)) else 1) = (n : Int) ∧ n ≤ 4 := by
      by_cases h1 : (4 : Int) < (ns.length : Int)
      · rw [if_pos h1]
        exact ⟨4, by decide, Nat.le_refl _⟩
      · rw [if_neg h1]
        by_cases h2 : (ns.length : Int) > 1
        · rw [if_pos h2]; exact ⟨ns.length, rfl, by omega⟩
        · rw [if_neg h2]; exact ⟨1, rfl, by decide⟩
    rw [hn]
    refine ⟨by omega, by omega, ?_⟩
    rw [Int.toNat_natCast]
    refine forP (goes_rng (small (by omega))) (fun _ σ' H' => (∃ (x1 x2 x3 x4 x5 x6 x7 x8 x9 x10 x11 x12 x13 : Option V),  σ' = [some (.ref a), x1, x2, x3, x4, x5, x6, x7, x8, x9, x10, x11, x12, x13, none, none, none, none, none, none]) ∧ Ex H H') ⟨⟨_, _, _, _, _, _, _, _, _, _, _, _, _, rfl⟩, Ex.refl _⟩ (fun _ _ _ _ => trivial) ?_ ?_
    rotate_left
    · rintro σ' H' ⟨⟨x1, x2, x3, x4, x5, x6, x7, x8, x9, x10, x11, x12, x13, rfl⟩, e⟩
      exact ⟨_, _, _, _, _, _, _, _, _, _, _, _, _, rfl, e⟩
    rintro i σ' H0 H1 hi ⟨⟨x1, x2, x3, x4, x5, x6, x7, x8, x9, x10, x11, x12, x13, rfl⟩, e0⟩ e1
    have e01 := e0.trans e1
    rw [Int.zero_add]
    -- the pot
    refine ⟨fun σ' H' => ∃ p : Addr, (∃ (x3 x4 x5 x6 x7 x8 x9 x10 x11 x12 x13 : Option V),  σ' = [some (.ref a), some (.int (i : Int)), some (.ref p), x3, x4, x5, x6, x7, x8, x9, x10, x11, x12, x13, none, none, none, none, none, none]) ∧ Gr H p H', ?_, ?_⟩
    · try simp only [is_ss, is_si, is_ii, is_ib, is_is, is_bs, is_ns, is_ni, is_nt, Bool.not_false, Bool.not_true, tSeq, tIfS, tRet, tRetN, tNext, tNever, tAsg, gName, tVar, tC, tOp, tUn, tCons, tNil, tCB, tCall, tTest, tB, tAnd, tOr, tNot, tAndV, tOrV, tNotV, tIf, tChain, rI0, rI, rU, rEq, rNe, List.map_cons, List.map_nil, List.length_cons, List.length_nil, List.replicate, List.cons_append, List.nil_append, List.append_nil, List.getElem?_cons_zero, List.getElem?_cons_succ, List.set_cons_zero, List.set_cons_succ, Option.some.injEq, exists_eq_left', exists_eq_left, exists_eq_right, V.str.injEq, V.int.injEq, V.bl.injEq, V.ref.injEq, V.ty.injEq, List.cons.injEq, and_true, true_and, exists_and_left, Nat.zero_add, Nat.add_sub_cancel, Nat.sub_self, Nat.succ_sub_succ_eq_sub, Nat.reduceSub, Nat.reduceAdd, Nat.sub_zero, tYes, tSl, tPart, tNoPart, if_true, Bool.false_eq_true, if_false, reduceCtorEq, false_and, exists_false, or_false, false_or, scal, tLc_eq, tFor_eq, iStr, iList, iTup, RZ.iZipA, decide_false, decide_true, tM1, tM0, tDrop, tAug, ipI]
      refine ⟨a, ns, i, rfl, ex_l e01 hs, by omega, fun p H2 hp0 e2 hp => ⟨p, ⟨rfl, _, rfl⟩, ⟨e01.trans e2, fresh_back e01 hp0, hp⟩⟩⟩
    rintro σ' H2 ⟨p, ⟨x3, x4, x5, x6, x7, x8, x9, x10, x11, x12, x13, rfl⟩, g2⟩
    -- the sizes
    refine ⟨fun σ' H' => ∃ lo si : Nat, (∃ (x5 x6 x7 x8 x9 x10 x11 x12 x13 : Option V),  σ' = [some (.ref a), some (.int (i : Int)), some (.ref p), some (.int (lo : Int)), some (.int (si : Int)), x5, x6, x7, x8, x9, x10, x11, x12, x13, none, none, none, none, none, none]) ∧ Gr H p H' ∧ lo ≤ 60 ∧ 0 < si ∧ si ≤ 60 ∧ si * (18 + lo * 140) ≤ 112720, ?_, ?_⟩
    · try simp only [tLst, tTup, gTup, gCons, gNil, is_ss, is_si, is_ii, is_ib, is_is, is_bs, is_ns, is_ni, is_nt, Bool.not_false, Bool.not_true, tSeq, tIfS, tRet, tRetN, tNext, tNever, tAsg, gName, tVar, tC, tOp, tUn, tCons, tNil, tCB, tCall, tTest, tB, tAnd, tOr, tNot, tAndV, tOrV, tNotV, tIf, tChain, rI0, rI, rU, rEq, rNe, List.map_cons, List.map_nil, List.length_cons, List.length_nil, List.replicate, List.cons_append, List.nil_append, List.append_nil, List.getElem?_cons_zero, List.getElem?_cons_succ, List.set_cons_zero, List.set_cons_succ, Option.some.injEq, exists_eq_left', exists_eq_left, exists_eq_right, V.str.injEq, V.int.injEq, V.bl.injEq, V.ref.injEq, V.ty.injEq, List.cons.injEq, and_true, true_and, exists_and_left, Nat.zero_add, Nat.add_sub_cancel, Nat.sub_self, Nat.succ_sub_succ_eq_sub, Nat.reduceSub, Nat.reduceAdd, Nat.sub_zero, tYes, tSl, tPart, tNoPart, if_true, Bool.false_eq_true, if_false, reduceCtorEq, false_and, exists_false, or_false, false_or, scal, tLc_eq, tFor_eq, iStr, iList, iTup, RZ.iZipA, decide_false, decide_true, tM1, tM0, tDrop, tAug, ipI]
      refine ⟨Nat.le_of_ble_eq_true rfl, fun t1 h1 => ⟨Nat.le_of_ble_eq_true rfl, fun t2 h2 => ⟨Nat.le_of_ble_eq_true rfl, fun t3 h3 => ⟨Nat.le_of_ble_eq_true rfl, fun t4 h4 => ⟨Nat.le_of_ble_eq_true rfl, fun t5 h5 => ?_⟩⟩⟩⟩⟩
      have f1 := Ex.new (o := .tup [V.int 6, V.int 6]) h1
      have f2 := Ex.new (o := .tup [V.int 30, V.int 6]) h2
      have f3 := Ex.new (o := .tup [V.int 20, V.int 40]) h3
      have f4 := Ex.new (o := .lst [V.ref t1, V.ref t2, V.ref t3]) h4
      have f5 := Ex.new (o := .lst [V.int 0, V.int 0, V.int 0, V.int 0, V.int 1, V.int 1, V.int 2]) h5
      have k1 := (((f2.trans f3).trans f4).trans f5) t1 _ upd_same
      have k2 := ((f3.trans f4).trans f5) t2 _ upd_same
      have k3 := (f4.trans f5) t3 _ upd_same
      have k4 := f5 t4 _ upd_same
      have k5 : upd (upd (upd (upd (upd H2 t1 (.tup [V.int 6, V.int 6])) t2 (.tup [V.int 30, V.int 6])) t3 (.tup [V.int 20, V.int 40])) t4 (.lst [V.ref t1, V.ref t2, V.ref t3])) t5 (.lst [V.int 0, V.int 0, V.int 0, V.int 0, V.int 1, V.int 1, V.int 2]) t5 = some (.lst [V.int 0, V.int 0, V.int 0, V.int 0, V.int 1, V.int 1, V.int 2]) := upd_same
      have ee := (((f1.trans f2).trans f3).trans f4).trans f5
      have n4 : t4 ≠ p := (((g2.pot.ex f1).ex f2).ex f3).ne h4
      have n5 : t5 ≠ p := ((((g2.pot.ex f1).ex f2).ex f3).ex f4).ne h5
      generalize upd (upd (upd (upd (upd H2 t1 (.tup [V.int 6, V.int 6])) t2 (.tup [V.int 30, V.int 6])) t3 (.tup [V.int 20, V.int 40])) t4 (.lst [V.ref t1, V.ref t2, V.ref t3])) t5 (.lst [V.int 0, V.int 0, V.int 0, V.int 0, V.int 1, V.int 1, V.int 2]) = H5 at k1 k2 k3 k4 k5 ee ⊢
      have g5 := g2.then ee
      have nt : ∀ (t : Addr) (xs : List V), H5 t = some (.tup xs) → t ≠ p := fun t xs ht z => by
        obtain ⟨u, v, hu, _⟩ := g5.pot
        rw [z, hu] at ht
        cases ht
      refine ⟨p, 7, rfl, g5.pot, by decide, by decide, fun H6 w d6 w0 w1 => ?_⟩
      have g6 := g5.dr d6
      obtain ⟨z, hz, hm⟩ := atI_some (xs := [V.int 0, V.int 0, V.int 0, V.int 0, V.int 1, V.int 1, V.int 2]) w0 w1
      refine ixL (SqL.of (d6.ex t5 _ n5 k5)) hz ?_
      have fin : ∀ (j : Nat) (t : Addr) (lo si : Nat), [V.ref t1, V.ref t2, V.ref t3][j]? = some (.ref t) → H5 t = some (.tup [V.int (lo : Int), V.int (si : Int)]) → lo ≤ 60 → 0 < si → si ≤ 60 → si * (18 + lo * 140) ≤ 112720 →
          rIxL K (V.ref t4) (V.int (j : Int)) H6 fun x H1 => ∃ a_1, x = V.ref a_1 ∧ ∃ x, SqT K H1 a_1 x ∧ x.length = 2 ∧ ∃ v r, x = v :: r ∧ ∃ v_1 r_1, r = v_1 :: r_1 ∧ r_1 = [] ∧ ∃ lo si : Nat, (v = V.int (lo : Int) ∧ v_1 = V.int (si : Int) ∧ ∃ x, x13 = x) ∧ Gr H p H1 ∧ lo ≤ 60 ∧ 0 < si ∧ si ≤ 60 ∧ si * (18 + lo * 140) ≤ 112720 := fun j t lo si hj ht a1 a2 a3 a4 =>
        ixL (SqL.of (d6.ex t4 _ n4 k4)) (atN hj) ⟨t, rfl, _, SqT.of (d6.ex t _ (nt t _ ht) ht), rfl, _, _, rfl, _, _, rfl, rfl, lo, si, ⟨rfl, rfl, _, rfl⟩, g6, a1, a2, a3, a4⟩
      simp only [List.mem_cons, List.not_mem_nil, or_false] at hm
      rcases hm with rfl | rfl | rfl | rfl | rfl | rfl | rfl
      · exact fin 0 t1 6 6 rfl k1 (by decide) (by decide) (by decide) (by decide)
      · exact fin 0 t1 6 6 rfl k1 (by decide) (by decide) (by decide) (by decide)
      · exact fin 0 t1 6 6 rfl k1 (by decide) (by decide) (by decide) (by decide)
      · exact fin 0 t1 6 6 rfl k1 (by decide) (by decide) (by decide) (by decide)
      · exact fin 1 t2 30 6 rfl k2 (by decide) (by decide) (by decide) (by decide)
      · exact fin 1 t2 30 6 rfl k2 (by decide) (by decide) (by decide) (by decide)
      · exact fin 2 t3 20 40 rfl k3 (by decide) (by decide) (by decide) (by decide)
    rintro σ' H3 ⟨lo, si, ⟨x5, x6, x7, x8, x9, x10, x11, x12, x13, rfl⟩, g3, hlo, hsi0, hsi, hsz⟩
    -- the modules
    refine ⟨fun σ' H' => ∃ (e lb : Addr) (ms : List Mo), (∃ (x7 x8 x9 x10 x11 x12 x13 : Option V),  σ' = [some (.ref a), some (.int (i : Int)), some (.ref p), some (.int (lo : Int)), some (.int (si : Int)), some (.ref e), some (.ref lb), x7, x8, x9, x10, x11, x12, x13, none, none, none, none, none, none]) ∧ Gr H p H' ∧ ProgsAt lo H' e ms ∧ ms.length ≤ si ∧ (ms.map (·.1)).Nodup ∧ ∀ m ∈ ms, m.1.length ≤ 10, ?_, ?_⟩
    · try simp only [gTup, gCons, gNil, is_ss, is_si, is_ii, is_ib, is_is, is_bs, is_ns, is_ni, is_nt, Bool.not_false, Bool.not_true, tSeq, tIfS, tRet, tRetN, tNext, tNever, tAsg, gName, tVar, tC, tOp, tUn, tCons, tNil, tCB, tCall, tTest, tB, tAnd, tOr, tNot, tAndV, tOrV, tNotV, tIf, tChain, rI0, rI, rU, rEq, rNe, List.map_cons, List.map_nil, List.length_cons, List.length_nil, List.replicate, List.cons_append, List.nil_append, List.append_nil, List.getElem?_cons_zero, List.getElem?_cons_succ, List.set_cons_zero, List.set_cons_succ, Option.some.injEq, exists_eq_left', exists_eq_left, exists_eq_right, V.str.injEq, V.int.injEq, V.bl.injEq, V.ref.injEq, V.ty.injEq, List.cons.injEq, and_true, true_and, exists_and_left, Nat.zero_add, Nat.add_sub_cancel, Nat.sub_self, Nat.succ_sub_succ_eq_sub, Nat.reduceSub, Nat.reduceAdd, Nat.sub_zero, tYes, tSl, tPart, tNoPart, if_true, Bool.false_eq_true, if_false, reduceCtorEq, false_and, exists_false, or_false, false_or, scal, tLc_eq, tFor_eq, iStr, iList, iTup, RZ.iZipA, decide_false, decide_true, tM1, tM0, tDrop, tAug, ipI]
      refine ⟨p, si, lo, rfl, g3.pot, hsi0, hsi, hlo, fun H4 q e lb ms d4 hq hpr hml hnd h10 => ⟨q, rfl, _, SqT.of hq, rfl, _, _, rfl, _, _, rfl, rfl, e, lb, ⟨rfl, rfl, _, rfl⟩, g3.dr d4, ms, hpr, hml, hnd, h10⟩⟩
    rintro σ' H4 ⟨e, lb, ms, ⟨x7, x8, x9, x10, x11, x12, x13, rfl⟩, g4, hpr, hml, hnd, h10⟩
    try simp only [tSeq, is_ss, is_si, is_ii, is_ib, is_is, is_bs, is_ns, is_ni, is_nt, Bool.not_false, Bool.not_true, tSeq, tIfS, tRet, tRetN, tNext, tNever, tAsg, gName, tVar, tC, tOp, tUn, tCons, tNil, tCB, tCall, tTest, tB, tAnd, tOr, tNot, tAndV, tOrV, tNotV, tIf, tChain, rI0, rI, rU, rEq, rNe, List.map_cons, List.map_nil, List.length_cons, List.length_nil, List.replicate, List.cons_append, List.nil_append, List.append_nil, List.getElem?_cons_zero, List.getElem?_cons_succ, List.set_cons_zero, List.set_cons_succ, Option.some.injEq, exists_eq_left', exists_eq_left, exists_eq_right, V.str.injEq, V.int.injEq, V.bl.injEq, V.ref.injEq, V.ty.injEq, List.cons.injEq, and_true, true_and, exists_and_left, Nat.zero_add, Nat.add_sub_cancel, Nat.sub_self, Nat.succ_sub_succ_eq_sub, Nat.reduceSub, Nat.reduceAdd, Nat.sub_zero, tYes, tSl, tPart, tNoPart, if_true, Bool.false_eq_true, if_false, reduceCtorEq, false_and, exists_false, or_false, false_or, scal, tLc_eq, tFor_eq, iStr, iList, iTup, RZ.iZipA, decide_false, decide_true, tM1, tM0, tDrop, tAug, ipI]
    refine ⟨kvsM ms, Rd.of hpr.1, ms.map (·.1), by unfold kvsM; rw [List.map_map, List.map_map]; rfl, by rw [List.length_map]; omega, fun ys q hperm _ hq => ?_⟩
    have hyl : ys.length = ms.length := by rw [hperm.length_eq, List.length_map]
    have fq := Ex.new (o := .lst (ys.map V.str)) hq
    have h5q : upd H4 q (.lst (ys.map V.str)) q = some (.lst (ys.map V.str)) := upd_same
    have g5 := g4.then fq
    have hpr5 := hpr.ex fq
    generalize upd H4 q (.lst (ys.map V.str)) = H5 at fq h5q g5 hpr5 ⊢
    refine ⟨⟨_, SqL.of h5q⟩, ?_⟩
    obtain ⟨W, hW⟩ : ∃ W : Nat → L2.St → Hp → Prop, ∀ j σ' H', W j σ' H' ↔ ∃ wh : Str, (∃ (x8 x9 x10 x11 x12 x13 : Option V),  σ' = [some (.ref a), some (.int (i : Int)), some (.ref p), some (.int (lo : Int)), some (.int (si : Int)), some (.ref e), some (.ref lb), some (.str wh), x8, x9, x10, x11, x12, x13, none, none, none, none, none, none]) ∧ Gr H p H' ∧ Ex H5 H' ∧ wh.length ≤ j * (18 + lo * 140) := ⟨_, fun _ _ _ => Iff.rfl⟩
    have l0 : (Str.ofString "").length = 0 := by decide +kernel
    refine forP (goes_list (xs := ys.map V.str) (small (by rw [List.length_map]; omega))) W ((hW _ _ _).mpr ⟨Str.ofString "", ⟨_, _, _, _, _, _, rfl⟩, g5, Ex.refl _, by rw [l0]; omega⟩) (fun j σ' H' hw => ?_) ?_ ?_
    · obtain ⟨wh, ⟨x8, x9, x10, x11, x12, x13, rfl⟩, g, ex, _⟩ := (hW _ _ _).mp hw
      exact SqL.of (ex q _ h5q)
    · intro j σ' H' H6 hj hw e6
      rw [List.length_map] at hj
      obtain ⟨wh, ⟨x8, x9, x10, x11, x12, x13, rfl⟩, g, ex, hwl⟩ := (hW _ _ _).mp hw
      have g6 := g.then e6
      have ex6 := ex.trans e6
      have hpr6 := hpr5.ex ex6
      have hii : (ys.map V.str)[j]? = some (V.str ys[j]) := by simp [hj]
      rw [hii]
      try simp only [is_ss, is_si, is_ii, is_ib, is_is, is_bs, is_ns, is_ni, is_nt, Bool.not_false, Bool.not_true, tSeq, tIfS, tRet, tRetN, tNext, tNever, tAsg, gName, tVar, tC, tOp, tUn, tCons, tNil, tCB, tCall, tTest, tB, tAnd, tOr, tNot, tAndV, tOrV, tNotV, tIf, tChain, rI0, rI, rU, rEq, rNe, List.map_cons, List.map_nil, List.length_cons, List.length_nil, List.replicate, List.cons_append, List.nil_append, List.append_nil, List.getElem?_cons_zero, List.getElem?_cons_succ, List.set_cons_zero, List.set_cons_succ, Option.some.injEq, exists_eq_left', exists_eq_left, exists_eq_right, V.str.injEq, V.int.injEq, V.bl.injEq, V.ref.injEq, V.ty.injEq, List.cons.injEq, and_true, true_and, exists_and_left, Nat.zero_add, Nat.add_sub_cancel, Nat.sub_self, Nat.succ_sub_succ_eq_sub, Nat.reduceSub, Nat.reduceAdd, Nat.sub_zero, tYes, tSl, tPart, tNoPart, if_true, Bool.false_eq_true, if_false, reduceCtorEq, false_and, exists_false, or_false, false_or, scal, tLc_eq, tFor_eq, iStr, iList, iTup, RZ.iZipA, decide_false, decide_true, tM1, tM0, tDrop, tAug, ipI]
      obtain ⟨mo, hmo, hname⟩ := List.mem_map.mp (hperm.subset (List.getElem_mem hj))
      have hd := getM hpr6.1 hnd hmo
      have hname2 : mo.1 = ys[j] := hname
      rw [hname2] at hd
      obtain ⟨es, hst, hes⟩ := hpr6.2 mo hmo
      have hn10 : ys[j].length ≤ 10 := by rw [← hname2]; exact h10 mo hmo
      try simp only [tDGet_eq, is_ss, is_si, is_ii, is_ib, is_is, is_bs, is_ns, is_ni, is_nt, Bool.not_false, Bool.not_true, tSeq, tIfS, tRet, tRetN, tNext, tNever, tAsg, gName, tVar, tC, tOp, tUn, tCons, tNil, tCB, tCall, tTest, tB, tAnd, tOr, tNot, tAndV, tOrV, tNotV, tIf, tChain, rI0, rI, rU, rEq, rNe, List.map_cons, List.map_nil, List.length_cons, List.length_nil, List.replicate, List.cons_append, List.nil_append, List.append_nil, List.getElem?_cons_zero, List.getElem?_cons_succ, List.set_cons_zero, List.set_cons_succ, Option.some.injEq, exists_eq_left', exists_eq_left, exists_eq_right, V.str.injEq, V.int.injEq, V.bl.injEq, V.ref.injEq, V.ty.injEq, List.cons.injEq, and_true, true_and, exists_and_left, Nat.zero_add, Nat.add_sub_cancel, Nat.sub_self, Nat.succ_sub_succ_eq_sub, Nat.reduceSub, Nat.reduceAdd, Nat.sub_zero, tYes, tSl, tPart, tNoPart, if_true, Bool.false_eq_true, if_false, reduceCtorEq, false_and, exists_false, or_false, false_or, scal, tLc_eq, tFor_eq, iStr, iList, iTup, RZ.iZipA, decide_false, decide_true, tM1, tM0, tDrop, tAug, ipI]
      refine getR hd ⟨mo.2.1, rfl, ⟨_, SqL.of hst.1⟩, ?_⟩
      refine lcMA (gv := V.ref) (goes_list (xs := es.map V.ref) (small (by rw [List.length_map]; omega))) (fun H' e => SqL.of (e _ _ hst.1)) (fun b => V.str (stepS (tupAt H6 b))) (fun b hb H7 e7 Q' q' => ?_) (fun D H7 hD e7 h7 => ?_) (fun _ => rfl)
      · obtain ⟨t, ht, hstp⟩ := hst.2 b hb
        have et : tupAt H6 b = t := by unfold tupAt; rw [ht]
        rw [et] at q'
        try simp only [wipe, iTup, is_ss, is_si, is_ii, is_ib, is_is, is_bs, is_ns, is_ni, is_nt, Bool.not_false, Bool.not_true, tSeq, tIfS, tRet, tRetN, tNext, tNever, tAsg, gName, tVar, tC, tOp, tUn, tCons, tNil, tCB, tCall, tTest, tB, tAnd, tOr, tNot, tAndV, tOrV, tNotV, tIf, tChain, rI0, rI, rU, rEq, rNe, List.map_cons, List.map_nil, List.length_cons, List.length_nil, List.replicate, List.cons_append, List.nil_append, List.append_nil, List.getElem?_cons_zero, List.getElem?_cons_succ, List.set_cons_zero, List.set_cons_succ, Option.some.injEq, exists_eq_left', exists_eq_left, exists_eq_right, V.str.injEq, V.int.injEq, V.bl.injEq, V.ref.injEq, V.ty.injEq, List.cons.injEq, and_true, true_and, exists_and_left, Nat.zero_add, Nat.add_sub_cancel, Nat.sub_self, Nat.succ_sub_succ_eq_sub, Nat.reduceSub, Nat.reduceAdd, Nat.sub_zero, tYes, tSl, tPart, tNoPart, if_true, Bool.false_eq_true, if_false, reduceCtorEq, false_and, exists_false, or_false, false_or, scal, tLc_eq, tFor_eq, iStr, iList, iTup, RZ.iZipA, decide_false, decide_true, tM1, tM0, tDrop, tAug, ipI]
        have ht7 := e7 _ _ ht
        refine ⟨⟨_, rfl⟩, ⟨_, SqT.of ht7⟩, ?_⟩
        have hfew := hstp.few
        refine lcMA (gv := fun v : V => v) (goes_tup (xs := t.map fun v => v) (small (by rw [List.length_map]; omega))) (fun H' e => SqT.of (by rw [List.map_id']; exact e _ _ ht7)) (fun v => V.str (showV v)) (fun v hv H8 e8 Q2 q2 => ?_) (fun D2 H8 hD2 e8 h8 => ?_) (fun _ => rfl)
        · rcases hstp.part v hv with ⟨x, rfl, hx⟩ | ⟨n, rfl, hn⟩
          · try simp only [wipe, is_ss, is_si, is_ii, is_ib, is_is, is_bs, is_ns, is_ni, is_nt, Bool.not_false, Bool.not_true, tSeq, tIfS, tRet, tRetN, tNext, tNever, tAsg, gName, tVar, tC, tOp, tUn, tCons, tNil, tCB, tCall, tTest, tB, tAnd, tOr, tNot, tAndV, tOrV, tNotV, tIf, tChain, rI0, rI, rU, rEq, rNe, List.map_cons, List.map_nil, List.length_cons, List.length_nil, List.replicate, List.cons_append, List.nil_append, List.append_nil, List.getElem?_cons_zero, List.getElem?_cons_succ, List.set_cons_zero, List.set_cons_succ, Option.some.injEq, exists_eq_left', exists_eq_left, exists_eq_right, V.str.injEq, V.int.injEq, V.bl.injEq, V.ref.injEq, V.ty.injEq, List.cons.injEq, and_true, true_and, exists_and_left, Nat.zero_add, Nat.add_sub_cancel, Nat.sub_self, Nat.succ_sub_succ_eq_sub, Nat.reduceSub, Nat.reduceAdd, Nat.sub_zero, tYes, tSl, tPart, tNoPart, if_true, Bool.false_eq_true, if_false, reduceCtorEq, false_and, exists_false, or_false, false_or, scal, tLc_eq, tFor_eq, iStr, iList, iTup, RZ.iZipA, decide_false, decide_true, tM1, tM0, tDrop, tAug, ipI]
            exact q2 H8 (Ex.refl _)
          · try simp only [wipe, is_ss, is_si, is_ii, is_ib, is_is, is_bs, is_ns, is_ni, is_nt, Bool.not_false, Bool.not_true, tSeq, tIfS, tRet, tRetN, tNext, tNever, tAsg, gName, tVar, tC, tOp, tUn, tCons, tNil, tCB, tCall, tTest, tB, tAnd, tOr, tNot, tAndV, tOrV, tNotV, tIf, tChain, rI0, rI, rU, rEq, rNe, List.map_cons, List.map_nil, List.length_cons, List.length_nil, List.replicate, List.cons_append, List.nil_append, List.append_nil, List.getElem?_cons_zero, List.getElem?_cons_succ, List.set_cons_zero, List.set_cons_succ, Option.some.injEq, exists_eq_left', exists_eq_left, exists_eq_right, V.str.injEq, V.int.injEq, V.bl.injEq, V.ref.injEq, V.ty.injEq, List.cons.injEq, and_true, true_and, exists_and_left, Nat.zero_add, Nat.add_sub_cancel, Nat.sub_self, Nat.succ_sub_succ_eq_sub, Nat.reduceSub, Nat.reduceAdd, Nat.sub_zero, tYes, tSl, tPart, tNoPart, if_true, Bool.false_eq_true, if_false, reduceCtorEq, false_and, exists_false, or_false, false_or, scal, tLc_eq, tFor_eq, iStr, iList, iTup, RZ.iZipA, decide_false, decide_true, tM1, tM0, tDrop, tAug, ipI]
            refine ⟨?_, q2 H8 (Ex.refl _)⟩
            by_cases z : n.natAbs = 0
            · rw [z]; decide
            · have := (Nat.log2_lt (k := 110) z).mpr (Nat.lt_trans hn (by decide))
              omega
        · obtain ⟨b1, b2, b3⟩ := step_len hstp
          have l2 : (Str.ofString "  ").length = 2 := by decide +kernel
          have l1 : (Str.ofString " ").length = 1 := by decide +kernel
          refine ⟨D2, rfl, t.map showV, .inl (SqL.of (by rw [h8, List.map_map]; rfl)), ?_, ?_, ?_, ?_⟩
          · rw [l1, Nat.mul_one, tot_sum]; omega
          · rw [l2]; exact small' (by omega)
          · rw [len_app, l2, len_nl]; exact small' (by omega)
          · exact q' H8 e8
      · have hlen : ∀ b ∈ es, (stepS (tupAt H6 b)).length ≤ 140 := fun b hb => by
          obtain ⟨t, ht, hstp⟩ := hst.2 b hb
          have et : tupAt H6 b = t := by unfold tupAt; rw [ht]
          obtain ⟨b1, b2, b3⟩ := step_len hstp
          rw [et]
          exact b2
        have hsm := sum_le (ls := es.map fun b => stepS (tupAt H6 b)) (B := 140) (fun y hy => by
          obtain ⟨b, hb, rfl⟩ := List.mem_map.mp hy
          exact hlen b hb)
        rw [List.length_map] at hsm
        have hsm2 : es.length * 140 ≤ lo * 140 := Nat.mul_le_mul_right _ hes
        have lm : (Str.ofString "module ").length = 7 := by decide +kernel
        have l0 : (Str.ofString "").length = 0 := by decide +kernel
        have hjw : (j + 1) * (18 + lo * 140) = j * (18 + lo * 140) + (18 + lo * 140) := Nat.succ_mul _ _
        have hjb : j * (18 + lo * 140) ≤ 60 * (18 + lo * 140) := Nat.mul_le_mul_right _ (by omega)
        refine ⟨?_, ?_, ?_, ⟨_, rfl⟩, D, rfl, es.map fun b => stepS (tupAt H6 b), .inl (SqL.of (by rw [h7, List.map_map]; rfl)), ?_, ?_, (hW _ _ _).mpr ⟨_, ⟨_, _, _, _, _, _, rfl⟩, g6.then e7, ex6.trans e7, ?_⟩⟩
        · rw [lm]; exact small' (by omega)
        · rw [len_app, lm]; exact small' (by omega)
        · rw [len_app, len_app, lm, len_nl]; exact small' (by omega)
        · rw [l0]; omega
        · rw [len_app, len_app, len_app, lm, len_nl, join0_len]; exact small' (by omega)
        · rw [len_app, len_app, len_app, len_app, lm, len_nl, join0_len, hjw]; omega
    · intro σ' H' hw
      rw [List.length_map] at hw
      obtain ⟨wh, ⟨x8, x9, x10, x11, x12, x13, rfl⟩, g, ex, hwl⟩ := (hW _ _ _).mp hw
      have hB : wh.length ≤ 112720 := by
        have h1 : ys.length * (18 + lo * 140) ≤ si * (18 + lo * 140) := Nat.mul_le_mul_right _ (by omega)
        omega
      try simp only [iRng1, is_ss, is_si, is_ii, is_ib, is_is, is_bs, is_ns, is_ni, is_nt, Bool.not_false, Bool.not_true, tSeq, tIfS, tRet, tRetN, tNext, tNever, tAsg, gName, tVar, tC, tOp, tUn, tCons, tNil, tCB, tCall, tTest, tB, tAnd, tOr, tNot, tAndV, tOrV, tNotV, tIf, tChain, rI0, rI, rU, rEq, rNe, List.map_cons, List.map_nil, List.length_cons, List.length_nil, List.replicate, List.cons_append, List.nil_append, List.append_nil, List.getElem?_cons_zero, List.getElem?_cons_succ, List.set_cons_zero, List.set_cons_succ, Option.some.injEq, exists_eq_left', exists_eq_left, exists_eq_right, V.str.injEq, V.int.injEq, V.bl.injEq, V.ref.injEq, V.ty.injEq, List.cons.injEq, and_true, true_and, exists_and_left, Nat.zero_add, Nat.add_sub_cancel, Nat.sub_self, Nat.succ_sub_succ_eq_sub, Nat.reduceSub, Nat.reduceAdd, Nat.sub_zero, tYes, tSl, tPart, tNoPart, if_true, Bool.false_eq_true, if_false, reduceCtorEq, false_and, exists_false, or_false, false_or, scal, tLc_eq, tFor_eq, iStr, iList, iTup, RZ.iZipA, decide_false, decide_true, tM1, tM0, tDrop, tAug, ipI]
      refine ⟨wh, rfl, by omega, fun H7 e7 => ⟨true, rfl, ?_⟩⟩
      have g7 := g.then e7
      rw [if_neg (by decide)]
      refine ⟨by decide, by decide, ?_⟩
      obtain ⟨W2, hW2⟩ : ∃ W2 : Nat → L2.St → Hp → Prop, ∀ j σ' H', W2 j σ' H' ↔ (∃ (x8 x9 x10 x11 x12 x13 : Option V),  σ' = [some (.ref a), some (.int (i : Int)), some (.ref p), some (.int (lo : Int)), some (.int (si : Int)), some (.ref e), some (.ref lb), some (.str wh), x8, x9, x10, x11, x12, x13, none, none, none, none, none, none]) ∧ Gr H p H' := ⟨_, fun _ _ _ => Iff.rfl⟩
      refine forP (goes_rng (small (by decide))) W2 ((hW2 _ _ _).mpr ⟨⟨_, _, _, _, _, _, rfl⟩, g7⟩) (fun _ _ _ _ => trivial) ?_ ?_
      rotate_left
      · intro σ' H' hw2
        obtain ⟨⟨x8, x9, x10, x11, x12, x13, rfl⟩, g8⟩ := (hW2 _ _ _).mp hw2
        exact ⟨⟨_, _, _, _, _, _, _, _, _, _, _, _, _, rfl⟩, g8.ex⟩
      intro u σ' H8 H9 hu hw2 e9
      obtain ⟨⟨x8, x9, x10, x11, x12, x13, rfl⟩, g8⟩ := (hW2 _ _ _).mp hw2
      have g9 := g8.then e9
      try simp only [iRng1, is_ss, is_si, is_ii, is_ib, is_is, is_bs, is_ns, is_ni, is_nt, Bool.not_false, Bool.not_true, tSeq, tIfS, tRet, tRetN, tNext, tNever, tAsg, gName, tVar, tC, tOp, tUn, tCons, tNil, tCB, tCall, tTest, tB, tAnd, tOr, tNot, tAndV, tOrV, tNotV, tIf, tChain, rI0, rI, rU, rEq, rNe, List.map_cons, List.map_nil, List.length_cons, List.length_nil, List.replicate, List.cons_append, List.nil_append, List.append_nil, List.getElem?_cons_zero, List.getElem?_cons_succ, List.set_cons_zero, List.set_cons_succ, Option.some.injEq, exists_eq_left', exists_eq_left, exists_eq_right, V.str.injEq, V.int.injEq, V.bl.injEq, V.ref.injEq, V.ty.injEq, List.cons.injEq, and_true, true_and, exists_and_left, Nat.zero_add, Nat.add_sub_cancel, Nat.sub_self, Nat.succ_sub_succ_eq_sub, Nat.reduceSub, Nat.reduceAdd, Nat.sub_zero, tYes, tSl, tPart, tNoPart, if_true, Bool.false_eq_true, if_false, reduceCtorEq, false_and, exists_false, or_false, false_or, scal, tLc_eq, tFor_eq, iStr, iList, iTup, RZ.iZipA, decide_false, decide_true, tM1, tM0, tDrop, tAug, ipI]
      refine ⟨p, 3, rfl, g9.pot, by decide, by decide, fun H10 c d10 c0 c1 => ⟨c, rfl, by omega, by omega, ?_⟩⟩
      have g10 := g9.dr d10
      obtain ⟨m, hm, hm3⟩ : ∃ m : Nat, (1 + c).toNat = m ∧ m ≤ 3 := ⟨_, rfl, by omega⟩
      rw [hm]
      obtain ⟨W3, hW3⟩ : ∃ W3 : Nat → L2.St → Hp → Prop, ∀ j σ' H', W3 j σ' H' ↔ ∃ sh : Str, (∃ (x8 x9 x10 x12 x13 : Option V),  σ' = [some (.ref a), some (.int (i : Int)), some (.ref p), some (.int (lo : Int)), some (.int (si : Int)), some (.ref e), some (.ref lb), some (.str wh), x8, x9, x10, some (.str sh), x12, x13, none, none, none, none, none, none]) ∧ Gr H p H' ∧ sh.length ≤ fS j := ⟨_, fun _ _ _ => Iff.rfl⟩
      refine forP (goes_rng (small (by omega))) W3 ((hW3 _ _ _).mpr ⟨wh, ⟨_, _, _, _, _, rfl⟩, g10, hB⟩) (fun _ _ _ _ => trivial) ?_ ?_
      · intro j2 σ' H' H'' hj2 hw3 e11
        obtain ⟨sh, ⟨x8, x9, x10, x12, x13, rfl⟩, g11, hsh⟩ := (hW3 _ _ _).mp hw3
        have g12 := g11.then e11
        have hb := fS_le j2 (by omega)
        try simp only [is_ss, is_si, is_ii, is_ib, is_is, is_bs, is_ns, is_ni, is_nt, Bool.not_false, Bool.not_true, tSeq, tIfS, tRet, tRetN, tNext, tNever, tAsg, gName, tVar, tC, tOp, tUn, tCons, tNil, tCB, tCall, tTest, tB, tAnd, tOr, tNot, tAndV, tOrV, tNotV, tIf, tChain, rI0, rI, rU, rEq, rNe, List.map_cons, List.map_nil, List.length_cons, List.length_nil, List.replicate, List.cons_append, List.nil_append, List.append_nil, List.getElem?_cons_zero, List.getElem?_cons_succ, List.set_cons_zero, List.set_cons_succ, Option.some.injEq, exists_eq_left', exists_eq_left, exists_eq_right, V.str.injEq, V.int.injEq, V.bl.injEq, V.ref.injEq, V.ty.injEq, List.cons.injEq, and_true, true_and, exists_and_left, Nat.zero_add, Nat.add_sub_cancel, Nat.sub_self, Nat.succ_sub_succ_eq_sub, Nat.reduceSub, Nat.reduceAdd, Nat.sub_zero, tYes, tSl, tPart, tNoPart, if_true, Bool.false_eq_true, if_false, reduceCtorEq, false_and, exists_false, or_false, false_or, scal, tLc_eq, tFor_eq, iStr, iList, iTup, RZ.iZipA, decide_false, decide_true, tM1, tM0, tDrop, tAug, ipI]
        exact ⟨p, sh, rfl, g12.pot, by omega, fun H13 y d13 hy => (hW3 _ _ _).mpr ⟨y, ⟨_, _, _, _, _, rfl⟩, g12.dr d13, Nat.le_trans hy (by show 2 * sh.length + 30 ≤ 2 * fS j2 + 30; omega)⟩⟩
      · intro σ' H' hw3
        obtain ⟨sh, ⟨x8, x9, x10, x12, x13, rfl⟩, g11, hsh⟩ := (hW3 _ _ _).mp hw3
        have hb := fS_le m (by omega)
        try simp only [is_ss, is_si, is_ii, is_ib, is_is, is_bs, is_ns, is_ni, is_nt, Bool.not_false, Bool.not_true, tSeq, tIfS, tRet, tRetN, tNext, tNever, tAsg, gName, tVar, tC, tOp, tUn, tCons, tNil, tCB, tCall, tTest, tB, tAnd, tOr, tNot, tAndV, tOrV, tNotV, tIf, tChain, rI0, rI, rU, rEq, rNe, List.map_cons, List.map_nil, List.length_cons, List.length_nil, List.replicate, List.cons_append, List.nil_append, List.append_nil, List.getElem?_cons_zero, List.getElem?_cons_succ, List.set_cons_zero, List.set_cons_succ, Option.some.injEq, exists_eq_left', exists_eq_left, exists_eq_right, V.str.injEq, V.int.injEq, V.bl.injEq, V.ref.injEq, V.ty.injEq, List.cons.injEq, and_true, true_and, exists_and_left, Nat.zero_add, Nat.add_sub_cancel, Nat.sub_self, Nat.succ_sub_succ_eq_sub, Nat.reduceSub, Nat.reduceAdd, Nat.sub_zero, tYes, tSl, tPart, tNoPart, if_true, Bool.false_eq_true, if_false, reduceCtorEq, false_and, exists_false, or_false, false_or, scal, tLc_eq, tFor_eq, iStr, iList, iTup, RZ.iZipA, decide_false, decide_true, tM1, tM0, tDrop, tAug, ipI]
        refine ⟨sh, rfl, by omega, fun H14 e14 => ⟨true, rfl, ?_⟩⟩
        rw [if_neg (by decide)]
        exact (hW2 _ _ _).mpr ⟨⟨_, _, _, _, _, _, rfl⟩, g11.then e14⟩
  rintro σ' H1 ⟨x1, x2, x3, x4, x5, x6, x7, x8, x9, x10, x11, x12, x13, rfl, e1⟩
  -- the things that are no texts
  refine ⟨fun σ' H' => ∃ (x1 x2 x3 x4 x5 x6 x7 x8 x9 x10 x11 x12 x13 : Option V),  σ' = [some (.ref a), x1, x2, x3, x4, x5, x6, x7, x8, x9, x10, x11, x12, x13, none, none, none, none, none, none] ∧ Ex H H', ?_, ?_⟩
  · try simp only [tLst, tTup, tDNewK, iList, is_ss, is_si, is_ii, is_ib, is_is, is_bs, is_ns, is_ni, is_nt, Bool.not_false, Bool.not_true, tSeq, tIfS, tRet, tRetN, tNext, tNever, tAsg, gName, tVar, tC, tOp, tUn, tCons, tNil, tCB, tCall, tTest, tB, tAnd, tOr, tNot, tAndV, tOrV, tNotV, tIf, tChain, rI0, rI, rU, rEq, rNe, List.map_cons, List.map_nil, List.length_cons, List.length_nil, List.replicate, List.cons_append, List.nil_append, List.append_nil, List.getElem?_cons_zero, List.getElem?_cons_succ, List.set_cons_zero, List.set_cons_succ, Option.some.injEq, exists_eq_left', exists_eq_left, exists_eq_right, V.str.injEq, V.int.injEq, V.bl.injEq, V.ref.injEq, V.ty.injEq, List.cons.injEq, and_true, true_and, exists_and_left, Nat.zero_add, Nat.add_sub_cancel, Nat.sub_self, Nat.succ_sub_succ_eq_sub, Nat.reduceSub, Nat.reduceAdd, Nat.sub_zero, tYes, tSl, tPart, tNoPart, if_true, Bool.false_eq_true, if_false, reduceCtorEq, false_and, exists_false, or_false, false_or, scal, tLc_eq, tFor_eq, iStr, iList, iTup, RZ.iZipA, decide_false, decide_true, tM1, tM0, tDrop, tAug, ipI]
    refine ⟨Nat.zero_le _, fun p1 h1 => ⟨Nat.zero_le _, fun p2 h2 => fun p3 h3 => ⟨Nat.le_of_ble_eq_true rfl, fun p4 h4 => ⟨Nat.le_of_ble_eq_true rfl, fun p5 h5 => ⟨Nat.le_of_ble_eq_true rfl, fun p6 h6 => ?_⟩⟩⟩⟩⟩
    have f1 := Ex.new (o := .lst []) h1
    have f2 := Ex.new (o := .tup []) h2
    have f3 := Ex.new (o := .dK []) h3
    have f4 := Ex.new (o := .lst [V.str (Str.ofString "module a\n")]) h4
    have f5 := Ex.new (o := .tup [V.str (Str.ofString "module a\n")]) h5
    have f6 := Ex.new (o := .lst [V.non, V.int 0, V.bl true, V.ref p1, V.ref p2, V.ref p3, V.ref p4, V.ref p5]) h6
    have k1 := ((((f2.trans f3).trans f4).trans f5).trans f6) p1 _ upd_same
    have k2 := (((f3.trans f4).trans f5).trans f6) p2 _ upd_same
    have k3 := ((f4.trans f5).trans f6) p3 _ upd_same
    have k4 := (f5.trans f6) p4 _ upd_same
    have k5 := f6 p5 _ upd_same
    have k6 : upd (upd (upd (upd (upd (upd H1 p1 (.lst [])) p2 (.tup [])) p3 (.dK [])) p4 (.lst [V.str (Str.ofString "module a\n")])) p5 (.tup [V.str (Str.ofString "module a\n")])) p6 (.lst [V.non, V.int 0, V.bl true, V.ref p1, V.ref p2, V.ref p3, V.ref p4, V.ref p5]) p6 = some (.lst [V.non, V.int 0, V.bl true, V.ref p1, V.ref p2, V.ref p3, V.ref p4, V.ref p5]) := upd_same
    have ee := ((((f1.trans f2).trans f3).trans f4).trans f5).trans f6
    generalize upd (upd (upd (upd (upd (upd H1 p1 (.lst [])) p2 (.tup [])) p3 (.dK [])) p4 (.lst [V.str (Str.ofString "module a\n")])) p5 (.tup [V.str (Str.ofString "module a\n")])) p6 (.lst [V.non, V.int 0, V.bl true, V.ref p1, V.ref p2, V.ref p3, V.ref p4, V.ref p5]) = H8 at k1 k2 k3 k4 k5 k6 ee ⊢
    have other : ∀ v ∈ [V.non, V.int 0, V.bl true, V.ref p1, V.ref p2, V.ref p3, V.ref p4, V.ref p5], OtherV K v H8 := by
      intro v hv H' Q' e q
      simp only [List.mem_cons, List.not_mem_nil, or_false] at hv
      rcases hv with rfl | rfl | rfl | rfl | rfl | rfl | rfl | rfl
      · rw [is_ns]; exact q
      · rw [is_is]; exact q
      · rw [is_bs]; exact q
      · exact is_ls (e _ _ k1) q
      · exact is_ts (e _ _ k2) q
      · exact is_ds (e _ _ k3) q
      · exact is_ls (e _ _ k4) q
      · exact is_ts (e _ _ k5) q
    refine ⟨⟨_, SqL.of k6⟩, ?_⟩
    refine forP (goes_list (small (Nat.le_of_ble_eq_true rfl))) (fun _ σ' H' => (∃ (x : Option V), σ' = [some (.ref a), x1, x2, x3, x4, x5, x6, x7, x8, x9, x10, x11, x12, x, none, none, none, none, none, none]) ∧ Ex H8 H') ⟨⟨_, rfl⟩, Ex.refl _⟩ (fun i σ' H' q => SqL.of (q.2 _ _ k6)) ?_ ?_
    · rintro i σ' H' H'' hi ⟨⟨x, rfl⟩, e8⟩ e9
      have hi8 : i < [V.non, V.int 0, V.bl true, V.ref p1, V.ref p2, V.ref p3, V.ref p4, V.ref p5].length := hi
      rw [List.getElem?_eq_getElem hi8]
      try simp only [is_ss, is_si, is_ii, is_ib, is_is, is_bs, is_ns, is_ni, is_nt, Bool.not_false, Bool.not_true, tSeq, tIfS, tRet, tRetN, tNext, tNever, tAsg, gName, tVar, tC, tOp, tUn, tCons, tNil, tCB, tCall, tTest, tB, tAnd, tOr, tNot, tAndV, tOrV, tNotV, tIf, tChain, rI0, rI, rU, rEq, rNe, List.map_cons, List.map_nil, List.length_cons, List.length_nil, List.replicate, List.cons_append, List.nil_append, List.append_nil, List.getElem?_cons_zero, List.getElem?_cons_succ, List.set_cons_zero, List.set_cons_succ, Option.some.injEq, exists_eq_left', exists_eq_left, exists_eq_right, V.str.injEq, V.int.injEq, V.bl.injEq, V.ref.injEq, V.ty.injEq, List.cons.injEq, and_true, true_and, exists_and_left, Nat.zero_add, Nat.add_sub_cancel, Nat.sub_self, Nat.succ_sub_succ_eq_sub, Nat.reduceSub, Nat.reduceAdd, Nat.sub_zero, tYes, tSl, tPart, tNoPart, if_true, Bool.false_eq_true, if_false, reduceCtorEq, false_and, exists_false, or_false, false_or, scal, tLc_eq, tFor_eq, iStr, iList, iTup, RZ.iZipA, decide_false, decide_true, tM1, tM0, tDrop, tAug, ipI]
      have ho := other _ (List.getElem_mem hi8)
      generalize [V.non, V.int 0, V.bl true, V.ref p1, V.ref p2, V.ref p3, V.ref p4, V.ref p5][i] = v at ho ⊢
      refine ⟨v, rfl, .inr ⟨fun H3 Q3 e q => ho H3 Q3 ((e8.trans e9).trans e) q, fun H3 e => ⟨rfl, ?_⟩⟩⟩
      rw [if_neg (by simp)]
      exact ⟨⟨_, rfl⟩, (e8.trans e9).trans e⟩
    · rintro σ' H' ⟨⟨x, rfl⟩, e8⟩
      exact ⟨_, _, _, _, _, _, _, _, _, _, _, _, _, rfl, (e1.trans ee).trans e8⟩
  rintro σ' H2 ⟨x1, x2, x3, x4, x5, x6, x7, x8, x9, x10, x11, x12, x13, rfl, e2⟩
  try simp only [tLst, tTup, iRng1, rSlS, is_ss, is_si, is_ii, is_ib, is_is, is_bs, is_ns, is_ni, is_nt, Bool.not_false, Bool.not_true, tSeq, tIfS, tRet, tRetN, tNext, tNever, tAsg, gName, tVar, tC, tOp, tUn, tCons, tNil, tCB, tCall, tTest, tB, tAnd, tOr, tNot, tAndV, tOrV, tNotV, tIf, tChain, rI0, rI, rU, rEq, rNe, List.map_cons, List.map_nil, List.length_cons, List.length_nil, List.replicate, List.cons_append, List.nil_append, List.append_nil, List.getElem?_cons_zero, List.getElem?_cons_succ, List.set_cons_zero, List.set_cons_succ, Option.some.injEq, exists_eq_left', exists_eq_left, exists_eq_right, V.str.injEq, V.int.injEq, V.bl.injEq, V.ref.injEq, V.ty.injEq, List.cons.injEq, and_true, true_and, exists_and_left, Nat.zero_add, Nat.add_sub_cancel, Nat.sub_self, Nat.succ_sub_succ_eq_sub, Nat.reduceSub, Nat.reduceAdd, Nat.sub_zero, tYes, tSl, tPart, tNoPart, if_true, Bool.false_eq_true, if_false, reduceCtorEq, false_and, exists_false, or_false, false_or, scal, tLc_eq, tFor_eq, iStr, iList, iTup, RZ.iZipA, decide_false, decide_true, tM1, tM0, tDrop, tAug, ipI]
  refine ⟨⟨_, rfl⟩, by decide, by decide, ?_⟩
  refine lcE (G := goes_rng (j := 16) (small (by decide))) (fun _ _ => rfl) (fun _ _ => trivial) (fun _ => true) (fun i => V.str (manyS i)) (fun i H3 hi e => et_yes) (fun i H3 hi e _ H4 e4 Q' q' => ?_) fun D H3 hD e h3 => ?_
  · try simp only [wipe, is_ss, is_si, is_ii, is_ib, is_is, is_bs, is_ns, is_ni, is_nt, Bool.not_false, Bool.not_true, tSeq, tIfS, tRet, tRetN, tNext, tNever, tAsg, gName, tVar, tC, tOp, tUn, tCons, tNil, tCB, tCall, tTest, tB, tAnd, tOr, tNot, tAndV, tOrV, tNotV, tIf, tChain, rI0, rI, rU, rEq, rNe, List.map_cons, List.map_nil, List.length_cons, List.length_nil, List.replicate, List.cons_append, List.nil_append, List.append_nil, List.getElem?_cons_zero, List.getElem?_cons_succ, List.set_cons_zero, List.set_cons_succ, Option.some.injEq, exists_eq_left', exists_eq_left, exists_eq_right, V.str.injEq, V.int.injEq, V.bl.injEq, V.ref.injEq, V.ty.injEq, List.cons.injEq, and_true, true_and, exists_and_left, Nat.zero_add, Nat.add_sub_cancel, Nat.sub_self, Nat.succ_sub_succ_eq_sub, Nat.reduceSub, Nat.reduceAdd, Nat.sub_zero, tYes, tSl, tPart, tNoPart, if_true, Bool.false_eq_true, if_false, reduceCtorEq, false_and, exists_false, or_false, false_or, scal, tLc_eq, tFor_eq, iStr, iList, iTup, RZ.iZipA, decide_false, decide_true, tM1, tM0, tDrop, tAug, ipI]
    have hi6 : i < 41 := hi
    rw [Int.zero_add]
    have c1 : ((i : Int) / 26).toNat = i / 26 := by omega
    have c2 : ((i : Int) % 26).toNat = i % 26 := by omega
    have l1 : ∀ c : Nat, (⟨#[c]⟩ : Str).length = 1 := fun _ => rfl
    have lm : (Str.ofString "module ").length = 7 := by decide +kernel
    have ln : (Str.ofString "\n").length = 1 := len_nl
    have la : (Str.ofString "ab").length = 2 := by decide +kernel
    have lz : (Str.ofString "abcdefghijklmnopqrstuvwxyz").length = 26 := by decide +kernel
    have ab : atI (Str.ofString "ab").cps.toList ((i : Int) / 26) = some (97 + i / 26) := by
      have key : ∀ n : Fin 2, (Str.ofString "ab").cps.toList[n.val]? = some (97 + n.val) := by decide +kernel
      have h2 : i / 26 < 2 := by omega
      have q := atN (key ⟨i / 26, h2⟩)
      rw [show ((i / 26 : Nat) : Int) = (i : Int) / 26 by omega] at q
      exact q
    refine ⟨⟨by decide, by decide⟩, _, _, _, rfl, rfl, by rw [la]; exact Nat.le_of_ble_eq_true rfl, ab, _, rfl, by rw [lm, l1]; exact Nat.le_of_ble_eq_true rfl, by decide, _, _, _, rfl, rfl, by rw [lz]; exact Nat.le_of_ble_eq_true rfl, let_at (i := (i : Int) % 26) (by omega) (by omega), _, rfl, ?_, ?_, ?_⟩
    · rw [len_app, lm, l1, l1]; exact Nat.le_of_ble_eq_true rfl
    · rw [len_app, len_app, lm, l1, l1, ln]; exact Nat.le_of_ble_eq_true rfl
    · rw [c2]
      exact q' H4 (Ex.refl _)
  · have e3 := e2.trans e
    have hg : given (Int.toNat 41) (fun _ => true) (fun i => V.str (manyS i)) = ((List.range 41).map manyS).map V.str := by
      unfold given
      rw [List.map_map, List.filter_eq_self.mpr (fun _ _ => rfl)]
      rfl
    rw [hg] at h3
    have hsum : (((List.range 41).map manyS).map fun x => x.length).sum + ((List.range 41).map manyS).length * (Str.ofString "").length ≤ 16777216 := by decide +kernel
    have hjl : (Txt.join (Str.ofString "") ((List.range 41).map manyS)).length ≤ 1000000 := by
      rw [join0_len]
      decide +kernel
    have hmo : MulOk (Str.ofString "  fail\n") 31 := by unfold MulOk; decide +kernel
    have hml : (Str.ofString "module a\n" ++ Txt.mul (Str.ofString "  fail\n") 31).length ≤ 1000000 := by decide +kernel
    have hml2 : (Str.ofString "module a\n").length + (Txt.mul (Str.ofString "  fail\n") 31).length ≤ sizeLine := by decide +kernel
    have hcl := cut_len (Txt.join (Str.ofString "") ((List.range 41).map manyS)) none (some (-10))
    have h0 : (Str.ofString "").length ≤ 1000000 ∧ (Str.ofString "\n").length ≤ 1000000 ∧ (Str.ofString " ").length ≤ 1000000 ∧ (Str.ofString "module a").length ≤ 1000000 := by decide +kernel
    refine ⟨D, rfl, _, .inl (SqL.of h3), hsum, small' (by omega), hmo, hml2, Nat.le_of_ble_eq_true rfl, fun q hq => ⟨⟨_, SqL.of upd_same⟩, ?_⟩⟩
    generalize hJ : Txt.join (Str.ofString "") ((List.range 41).map manyS) = J at hjl hcl
    generalize hC : cutS J none (some (-10)) = C at hcl
    generalize hM : Str.ofString "module a\n" ++ Txt.mul (Str.ofString "  fail\n") 31 = M at hml
    have hall : ∀ y ∈ [Str.ofString "", Str.ofString "\n", Str.ofString " ", J, C, M, Str.ofString "module a"], y.length ≤ 1000000 := by
      intro y hy
      simp only [List.mem_cons, List.not_mem_nil, or_false] at hy
      rcases hy with rfl | rfl | rfl | rfl | rfl | rfl | rfl
      · exact h0.1
      · exact h0.2.1
      · exact h0.2.2.1
      · exact hjl
      · exact Nat.le_trans hcl hjl
      · exact hml
      · exact h0.2.2.2
    have h7 : upd H3 q (.lst ([Str.ofString "", Str.ofString "\n", Str.ofString " ", J, C, M, Str.ofString "module a"].map V.str)) q = some (.lst ([Str.ofString "", Str.ofString "\n", Str.ofString " ", J, C, M, Str.ofString "module a"].map V.str)) := upd_same
    show LcW (Itl K q) (gName 17) tYes _ [17] _ (upd H3 q (.lst ([Str.ofString "", Str.ofString "\n", Str.ofString " ", J, C, M, Str.ofString "module a"].map V.str))) _
    generalize upd H3 q (.lst ([Str.ofString "", Str.ofString "\n", Str.ofString " ", J, C, M, Str.ofString "module a"].map V.str)) = H4 at h7 ⊢
    refine lcMA (gv := V.str) (goes_list (xs := [Str.ofString "", Str.ofString "\n", Str.ofString " ", J, C, M, Str.ofString "module a"].map V.str) (small (by rw [List.length_map]; exact Nat.le_of_ble_eq_true rfl))) (fun H' e => SqL.of (e q _ h7)) (fun _ => V.bl true) (fun y hy H5 e Q' q' => ?_) (fun D2 H5 hD2 e5 h5 => ?_) (fun _ => rfl)
    · try simp only [wipe, is_ss, is_si, is_ii, is_ib, is_is, is_bs, is_ns, is_ni, is_nt, Bool.not_false, Bool.not_true, tSeq, tIfS, tRet, tRetN, tNext, tNever, tAsg, gName, tVar, tC, tOp, tUn, tCons, tNil, tCB, tCall, tTest, tB, tAnd, tOr, tNot, tAndV, tOrV, tNotV, tIf, tChain, rI0, rI, rU, rEq, rNe, List.map_cons, List.map_nil, List.length_cons, List.length_nil, List.replicate, List.cons_append, List.nil_append, List.append_nil, List.getElem?_cons_zero, List.getElem?_cons_succ, List.set_cons_zero, List.set_cons_succ, Option.some.injEq, exists_eq_left', exists_eq_left, exists_eq_right, V.str.injEq, V.int.injEq, V.bl.injEq, V.ref.injEq, V.ty.injEq, List.cons.injEq, and_true, true_and, exists_and_left, Nat.zero_add, Nat.add_sub_cancel, Nat.sub_self, Nat.succ_sub_succ_eq_sub, Nat.reduceSub, Nat.reduceAdd, Nat.sub_zero, tYes, tSl, tPart, tNoPart, if_true, Bool.false_eq_true, if_false, reduceCtorEq, false_and, exists_false, or_false, false_or, scal, tLc_eq, tFor_eq, iStr, iList, iTup, RZ.iZipA, decide_false, decide_true, tM1, tM0, tDrop, tAug, ipI]
      exact ⟨y, rfl, hall y hy, q'⟩
    · exact allQ (bs := [true, true, true, true, true, true, true]) h5 (hQ H5)

end K17

-- text K17H5
set_option maxHeartbeats 8000000
/-! ## the module's facts, all promises -/
namespace K17
open PySem PySem.Spec PyProof.Rows L2 Evl
def adK (K : PySem.W.Frag) : Ad := ⟨He.ga K "VARIABLES", He.ga K "FORMS", He.ga K "Library", He.ga K "InvalidText", He.ga K "LoaderError", He.ga K "InvalidCommand", He.ga K "InvalidLibrary", He.ga K "InvalidProgram"⟩
section
variable {P : Program} {w : World} {K : PySem.W.Frag} {h : Heap} {mg : Str → Option Value} {base : Heap}
theorem ba2 {a b : Bool} (h : (a && b) = true) : a = true ∧ b = true := Bool.and_eq_true_iff.mp h
theorem tx_ok (X : K.In h) (G : h.Ns mainGlobals mg) (c : He.SaysT fa fn tab w K) (ex : exB K = true) : Tx w K mg (adK K) ∧ Tex K mg (adK K) ∧ Tlb K mg (adK K) ∧ Tlw K mg (adK K) := by
  unfold exB at ex
  obtain ⟨x1, ex⟩ := ba2 ex
  obtain ⟨x2, ex⟩ := ba2 ex
  obtain ⟨x3, ex⟩ := ba2 ex
  obtain ⟨x4, ex⟩ := ba2 ex
  obtain ⟨x5, ex⟩ := ba2 ex
  obtain ⟨x6, ex⟩ := ba2 ex
  obtain ⟨x7, ex⟩ := ba2 ex
  obtain ⟨x8, ex⟩ := ba2 ex
  obtain ⟨x9, ex⟩ := ba2 ex
  obtain ⟨x10, ex⟩ := ba2 ex
  obtain ⟨x11, ex⟩ := ba2 ex
  obtain ⟨x12, ex⟩ := ba2 ex
  obtain ⟨x13, ex⟩ := ba2 ex
  obtain ⟨x14, x15⟩ := ba2 ex
  refine ⟨{
    c_MOST_LETTERS := He.int_ok X G (c.d.fact 70 (f := .int "MOST_LETTERS" 8) rfl)
    c_MOST_STEPS := He.int_ok X G (c.d.fact 71 (f := .int "MOST_STEPS" 30) rfl)
    c_MOST_DIGITS := He.int_ok X G (c.d.fact 72 (f := .int "MOST_DIGITS" 4000) rfl)
    c_MOST_MODULES := He.int_ok X G (c.d.fact 73 (f := .int "MOST_MODULES" 40) rfl)
    c_LETTERS := He.str_ok X G (c.d.fact 74 (f := .str "LETTERS" "abcdefghijklmnopqrstuvwxyz") rfl)
    c_DIGITS := He.str_ok X G (c.d.fact 75 (f := .str "DIGITS" "0123456789") rfl)
    c_HEAD := He.str_ok X G (c.d.fact 76 (f := .str "HEAD" "module ") rfl)
    c_INDENT := He.str_ok X G (c.d.fact 77 (f := .str "INDENT" "  ") rfl)
    c_VARIABLES := (He.glo_ok X G (c.d.fact 51 (f := .glo "VARIABLES") rfl))
    var := fun H => tupB_ok (ls := ["a", "b", "c", "d"]) x8 H
    c_FORMS := (He.glo_ok X G (c.d.fact 50 (f := .glo "FORMS") rfl))
    fdic := He.SaysT.tab c 0 (t := (fun K => He.ga K "FORMS", ["set", "add", "skip", "export", "read", "need", "try", "fail"])) rfl
    flow := formB_ok x9
    fnone := keysB_ok x10
    b_isinstance := He.free_ok X G (c.d.fact 52 (f := .free "isinstance") rfl)
    b_len := He.free_ok X G (c.d.fact 53 (f := .free "len") rfl)
    b_all := He.free_ok X G (c.d.fact 54 (f := .free "all") rfl)
    b_str := He.free_ok X G (c.d.fact 55 (f := .free "str") rfl)
    b_int := He.free_ok X G (c.d.fact 56 (f := .free "int") rfl)
    b_tuple := He.free_ok X G (c.d.fact 57 (f := .free "tuple") rfl)
    b_zip := He.free_ok X G (c.d.fact 58 (f := .free "zip") rfl)
    b_enumerate := He.free_ok X G (c.d.fact 59 (f := .free "enumerate") rfl)
    b_list := He.free_ok X G (c.d.fact 60 (f := .free "list") rfl)
    b_dict := He.free_ok X G (c.d.fact 61 (f := .free "dict") rfl)
    b_bool := He.free_ok X G (c.d.fact 62 (f := .free "bool") rfl)
    b_sorted := He.free_ok X G (c.d.fact 63 (f := .free "sorted") rfl)
    b_abs := He.free_ok X G (c.d.fact 64 (f := .free "abs") rfl)
    b_max := He.free_ok X G (c.d.fact 65 (f := .free "max") rfl)
    b_min := He.free_ok X G (c.d.fact 66 (f := .free "min") rfl)
    b_divmod := He.free_ok X G (c.d.fact 67 (f := .free "divmod") rfl)
    b_range := He.free_ok X G (c.d.fact 68 (f := .free "range") rfl)
    b_repr := He.free_ok X G (c.d.fact 69 (f := .free "repr") rfl)
  }, {
    c_it := (He.glo_ok X G (c.d.fact 44 (f := .glo "InvalidText") rfl))
    c_le := (He.glo_ok X G (c.d.fact 45 (f := .glo "LoaderError") rfl))
    oex := oexB_ok x1
    rdL := x2
    gaL := of_decide_eq_true x3
    vL := ?_
    nline := of_decide_eq_true x5
    tI := ?_ }, ⟨(He.glo_ok X G (c.d.fact 49 (f := .glo "Library") rfl)), He.cls_ok (c.d.fact 78 (f := .cls "Library") rfl), He.noat_ok (c.d.fact 83 (f := .noat "Library" "own_programs") rfl)⟩, ⟨xisB_ok x11, xfB_ok x12, (He.glo_ok X G (c.d.fact 46 (f := .glo "InvalidCommand") rfl)), (He.glo_ok X G (c.d.fact 47 (f := .glo "InvalidLibrary") rfl)), (He.glo_ok X G (c.d.fact 48 (f := .glo "InvalidProgram") rfl)), (He.glo_ok X G (c.d.fact 45 (f := .glo "LoaderError") rfl)), of_decide_eq_true x13, of_decide_eq_true x14, of_decide_eq_true x15⟩⟩
  · split at x4
    · rename_i n hn
      rw [beq_iff_eq] at x4
      rw [← x4]
      exact hn
    · cases x4
  · obtain ⟨fd, F⟩ := c.d.def_ 0 (d := d_InvalidText_init) rfl
    exact ⟨_, fd, of_decide_eq_true x6, of_decide_eq_true x7, F⟩
end
end K17

-- text K17H6
set_option maxHeartbeats 8000000
/-! ## all together -/
namespace K17
open PySem PySem.Spec PyProof.Rows L2 Evl
theorem all_ok {P : Program} {w : World} {K : PySem.W.Frag} {h : Heap} {mg : Str → Option Value} {fL : Addr} (X : K.In h) (G : h.Ns mainGlobals mg) (hfa : mg ("law" : Str) = some (.ref fL)) (c : He.SaysT fa fn tab w K) (ex : exB K = true) :
    ∃ fd : FuncData, (∀ (s : Shared) (u : Value), BindsTo s fd ⟨[u], []⟩ [("_law_script", u)]) ∧ ∀ base : Heap, K.In base → base.Ns mainGlobals mg → FnG P w K mg base 16 0 fL fd ["_law_script"] (spLaw K) := by
  obtain ⟨T, E0', L, TX⟩ := tx_ok X G c ex
  obtain ⟨fd0, D0⟩ := c.d.def_ 0 (d := d_InvalidText_init) rfl
  obtain ⟨fd1, D1⟩ := c.d.def_ 1 (d := d_is_name) rfl
  have F_is_name : Fd K mg "is_name" s_is_name [] := ⟨_, fd1, (He.glo_ok X G (c.d.fact 0 (f := .glo "is_name") rfl)), D1⟩
  obtain ⟨fd2, D2⟩ := c.d.def_ 2 (d := d_is_integer) rfl
  have F_is_integer : Fd K mg "is_integer" s_is_integer [] := ⟨_, fd2, (He.glo_ok X G (c.d.fact 1 (f := .glo "is_integer") rfl)), D2⟩
  obtain ⟨fd3, D3⟩ := c.d.def_ 3 (d := d_is_variable) rfl
  have F_is_variable : Fd K mg "is_variable" s_is_variable [] := ⟨_, fd3, (He.glo_ok X G (c.d.fact 2 (f := .glo "is_variable") rfl)), D3⟩
  obtain ⟨fd4, D4⟩ := c.d.def_ 4 (d := d_is_item) rfl
  have F_is_item : Fd K mg "is_item" s_is_item [] := ⟨_, fd4, (He.glo_ok X G (c.d.fact 3 (f := .glo "is_item") rfl)), D4⟩
  obtain ⟨fd5, D5⟩ := c.d.def_ 5 (d := d_is_step) rfl
  have F_is_step : Fd K mg "is_step" s_is_step [] := ⟨_, fd5, (He.glo_ok X G (c.d.fact 4 (f := .glo "is_step") rfl)), D5⟩
  obtain ⟨fd6, D6⟩ := c.d.def_ 6 (d := d_step_modules) rfl
  have F_step_modules : Fd K mg "step_modules" s_step_modules [] := ⟨_, fd6, (He.glo_ok X G (c.d.fact 5 (f := .glo "step_modules") rfl)), D6⟩
  obtain ⟨fd7, D7⟩ := c.d.def_ 7 (d := d_is_wrong) rfl
  have F_is_wrong : Fd K mg "is_wrong" s_is_wrong [] := ⟨_, fd7, (He.glo_ok X G (c.d.fact 6 (f := .glo "is_wrong") rfl)), D7⟩
  obtain ⟨fd8, D8⟩ := c.d.def_ 8 (d := d_first_problem) rfl
  have F_first_problem : Fd K mg "first_problem" s_first_problem [("is_main", .bl false), ("known", .non)] := ⟨_, fd8, (He.glo_ok X G (c.d.fact 7 (f := .glo "first_problem") rfl)), D8⟩
  obtain ⟨fd9, D9⟩ := c.d.def_ 9 (d := d_step_text) rfl
  have F_step_text : Fd K mg "step_text" s_step_text [] := ⟨_, fd9, (He.glo_ok X G (c.d.fact 8 (f := .glo "step_text") rfl)), D9⟩
  obtain ⟨fd10, D10⟩ := c.d.def_ 10 (d := d_parse_integer) rfl
  have F_parse_integer : Fd K mg "parse_integer" s_parse_integer [] := ⟨_, fd10, (He.glo_ok X G (c.d.fact 9 (f := .glo "parse_integer") rfl)), D10⟩
  obtain ⟨fd11, D11⟩ := c.d.def_ 11 (d := d_parse_step) rfl
  have F_parse_step : Fd K mg "parse_step" s_parse_step [] := ⟨_, fd11, (He.glo_ok X G (c.d.fact 10 (f := .glo "parse_step") rfl)), D11⟩
  obtain ⟨fd12, D12⟩ := c.d.def_ 12 (d := d_check_library) rfl
  have F_check_library : Fd K mg "check_library" s_check_library [] := ⟨_, fd12, (He.glo_ok X G (c.d.fact 11 (f := .glo "check_library") rfl)), D12⟩
  obtain ⟨fd13, D13⟩ := c.d.def_ 13 (d := d_Library_init) rfl
  obtain ⟨fd14, D14⟩ := c.d.def_ 14 (d := d_Library_modules) rfl
  obtain ⟨fd15, D15⟩ := c.d.def_ 15 (d := d_Library_has_module) rfl
  obtain ⟨fd16, D16⟩ := c.d.def_ 16 (d := d_Library_initializer) rfl
  obtain ⟨fd17, D17⟩ := c.d.def_ 17 (d := d_library_text) rfl
  have F_library_text : Fd K mg "library_text" s_library_text [] := ⟨_, fd17, (He.glo_ok X G (c.d.fact 12 (f := .glo "library_text") rfl)), D17⟩
  obtain ⟨fd18, D18⟩ := c.d.def_ 18 (d := d_step_of_line) rfl
  have F_step_of_line : Fd K mg "step_of_line" s_step_of_line [] := ⟨_, fd18, (He.glo_ok X G (c.d.fact 13 (f := .glo "step_of_line") rfl)), D18⟩
  obtain ⟨fd19, D19⟩ := c.d.def_ 19 (d := d_step_lines_problem) rfl
  have F_step_lines_problem : Fd K mg "step_lines_problem" s_step_lines_problem [("is_main", .bl false)] := ⟨_, fd19, (He.glo_ok X G (c.d.fact 14 (f := .glo "step_lines_problem") rfl)), D19⟩
  obtain ⟨fd20, D20⟩ := c.d.def_ 20 (d := d_module_of_line) rfl
  have F_module_of_line : Fd K mg "module_of_line" s_module_of_line [] := ⟨_, fd20, (He.glo_ok X G (c.d.fact 15 (f := .glo "module_of_line") rfl)), D20⟩
  obtain ⟨fd21, D21⟩ := c.d.def_ 21 (d := d_split_lines) rfl
  have F_split_lines : Fd K mg "split_lines" s_split_lines [] := ⟨_, fd21, (He.glo_ok X G (c.d.fact 16 (f := .glo "split_lines") rfl)), D21⟩
  obtain ⟨fd22, D22⟩ := c.d.def_ 22 (d := d_step_lines_after) rfl
  have F_step_lines_after : Fd K mg "step_lines_after" s_step_lines_after [] := ⟨_, fd22, (He.glo_ok X G (c.d.fact 17 (f := .glo "step_lines_after") rfl)), D22⟩
  obtain ⟨fd23, D23⟩ := c.d.def_ 23 (d := d_first_wrong) rfl
  have F_first_wrong : Fd K mg "first_wrong" s_first_wrong [] := ⟨_, fd23, (He.glo_ok X G (c.d.fact 18 (f := .glo "first_wrong") rfl)), D23⟩
  obtain ⟨fd24, D24⟩ := c.d.def_ 24 (d := d_load_library) rfl
  have F_load_library : Fd K mg "load_library" s_load_library [] := ⟨_, fd24, (He.glo_ok X G (c.d.fact 19 (f := .glo "load_library") rfl)), D24⟩
  obtain ⟨fd25, D25⟩ := c.d.def_ 25 (d := d_L_pot) rfl
  have F__law_pot : Fd K mg "_law_pot" s_L_pot [] := ⟨_, fd25, (He.glo_ok X G (c.d.fact 20 (f := .glo "_law_pot") rfl)), D25⟩
  obtain ⟨fd26, D26⟩ := c.d.def_ 26 (d := d_L_draw) rfl
  have F__law_draw : Fd K mg "_law_draw" s_L_draw [] := ⟨_, fd26, (He.glo_ok X G (c.d.fact 21 (f := .glo "_law_draw") rfl)), D26⟩
  obtain ⟨fd27, D27⟩ := c.d.def_ 27 (d := d_L_choice) rfl
  have F__law_choice : Fd K mg "_law_choice" s_L_choice [] := ⟨_, fd27, (He.glo_ok X G (c.d.fact 22 (f := .glo "_law_choice") rfl)), D27⟩
  obtain ⟨fd28, D28⟩ := c.d.def_ 28 (d := d_L_word) rfl
  have F__law_word : Fd K mg "_law_word" s_L_word [] := ⟨_, fd28, (He.glo_ok X G (c.d.fact 23 (f := .glo "_law_word") rfl)), D28⟩
  obtain ⟨fd29, D29⟩ := c.d.def_ 29 (d := d_L_words) rfl
  have F__law_words : Fd K mg "_law_words" s_L_words [] := ⟨_, fd29, (He.glo_ok X G (c.d.fact 24 (f := .glo "_law_words") rfl)), D29⟩
  obtain ⟨fd30, D30⟩ := c.d.def_ 30 (d := d_L_mixed) rfl
  have F__law_mixed : Fd K mg "_law_mixed" s_L_mixed [] := ⟨_, fd30, (He.glo_ok X G (c.d.fact 25 (f := .glo "_law_mixed") rfl)), D30⟩
  obtain ⟨fd31, D31⟩ := c.d.def_ 31 (d := d_L_integer) rfl
  have F__law_integer : Fd K mg "_law_integer" s_L_integer [] := ⟨_, fd31, (He.glo_ok X G (c.d.fact 26 (f := .glo "_law_integer") rfl)), D31⟩
  obtain ⟨fd32, D32⟩ := c.d.def_ 32 (d := d_L_local_step) rfl
  have F__law_local_step : Fd K mg "_law_local_step" s_L_local_step [] := ⟨_, fd32, (He.glo_ok X G (c.d.fact 27 (f := .glo "_law_local_step") rfl)), D32⟩
  obtain ⟨fd33, D33⟩ := c.d.def_ 33 (d := d_L_read_step) rfl
  have F__law_read_step : Fd K mg "_law_read_step" s_L_read_step [] := ⟨_, fd33, (He.glo_ok X G (c.d.fact 28 (f := .glo "_law_read_step") rfl)), D33⟩
  obtain ⟨fd34, D34⟩ := c.d.def_ 34 (d := d_L_program) rfl
  have F__law_program : Fd K mg "_law_program" s_L_program [] := ⟨_, fd34, (He.glo_ok X G (c.d.fact 29 (f := .glo "_law_program") rfl)), D34⟩
  obtain ⟨fd35, D35⟩ := c.d.def_ 35 (d := d_L_modules) rfl
  have F__law_modules : Fd K mg "_law_modules" s_L_modules [] := ⟨_, fd35, (He.glo_ok X G (c.d.fact 30 (f := .glo "_law_modules") rfl)), D35⟩
  obtain ⟨fd36, D36⟩ := c.d.def_ 36 (d := d_L_is_label) rfl
  have F__law_is_label : Fd K mg "_law_is_label" s_L_is_label [] := ⟨_, fd36, (He.glo_ok X G (c.d.fact 31 (f := .glo "_law_is_label") rfl)), D36⟩
  obtain ⟨fd37, D37⟩ := c.d.def_ 37 (d := d_L_is_number) rfl
  have F__law_is_number : Fd K mg "_law_is_number" s_L_is_number [] := ⟨_, fd37, (He.glo_ok X G (c.d.fact 32 (f := .glo "_law_is_number") rfl)), D37⟩
  obtain ⟨fd38, D38⟩ := c.d.def_ 38 (d := d_L_step_read) rfl
  have F__law_step_read : Fd K mg "_law_step_read" s_L_step_read [] := ⟨_, fd38, (He.glo_ok X G (c.d.fact 33 (f := .glo "_law_step_read") rfl)), D38⟩
  obtain ⟨fd39, D39⟩ := c.d.def_ 39 (d := d_L_head) rfl
  have F__law_head : Fd K mg "_law_head" s_L_head [] := ⟨_, fd39, (He.glo_ok X G (c.d.fact 34 (f := .glo "_law_head") rfl)), D39⟩
  obtain ⟨fd40, D40⟩ := c.d.def_ 40 (d := d_L_block) rfl
  have F__law_block : Fd K mg "_law_block" s_L_block [] := ⟨_, fd40, (He.glo_ok X G (c.d.fact 35 (f := .glo "_law_block") rfl)), D40⟩
  obtain ⟨fd41, D41⟩ := c.d.def_ 41 (d := d_L_is_wrong_step) rfl
  have F__law_is_wrong_step : Fd K mg "_law_is_wrong_step" s_L_is_wrong_step [] := ⟨_, fd41, (He.glo_ok X G (c.d.fact 36 (f := .glo "_law_is_wrong_step") rfl)), D41⟩
  obtain ⟨fd42, D42⟩ := c.d.def_ 42 (d := d_L_is_wrong) rfl
  have F__law_is_wrong : Fd K mg "_law_is_wrong" s_L_is_wrong [] := ⟨_, fd42, (He.glo_ok X G (c.d.fact 37 (f := .glo "_law_is_wrong") rfl)), D42⟩
  obtain ⟨fd43, D43⟩ := c.d.def_ 43 (d := d_L_wrong_line) rfl
  have F__law_wrong_line : Fd K mg "_law_wrong_line" s_L_wrong_line [] := ⟨_, fd43, (He.glo_ok X G (c.d.fact 38 (f := .glo "_law_wrong_line") rfl)), D43⟩
  obtain ⟨fd44, D44⟩ := c.d.def_ 44 (d := d_L_line) rfl
  have F__law_line : Fd K mg "_law_line" s_L_line [] := ⟨_, fd44, (He.glo_ok X G (c.d.fact 39 (f := .glo "_law_line") rfl)), D44⟩
  obtain ⟨fd45, D45⟩ := c.d.def_ 45 (d := d_L_changed) rfl
  have F__law_changed : Fd K mg "_law_changed" s_L_changed [] := ⟨_, fd45, (He.glo_ok X G (c.d.fact 40 (f := .glo "_law_changed") rfl)), D45⟩
  obtain ⟨fd46, D46⟩ := c.d.def_ 46 (d := d_L_told) rfl
  have F__law_told : Fd K mg "_law_told" s_L_told [] := ⟨_, fd46, (He.glo_ok X G (c.d.fact 41 (f := .glo "_law_told") rfl)), D46⟩
  obtain ⟨fd47, D47⟩ := c.d.def_ 47 (d := d_L_right) rfl
  have F__law_right : Fd K mg "_law_right" s_L_right [] := ⟨_, fd47, (He.glo_ok X G (c.d.fact 42 (f := .glo "_law_right") rfl)), D47⟩
  have F_Library_modules : Fm K (adK K).lb "modules" "Library.modules" s_Library_modules := ⟨_, fd14, He.meth_ok (c.d.fact 79 (f := .meth "Library" "modules") rfl), D14⟩
  have F_Library_has_module : Fm K (adK K).lb "has_module" "Library.has_module" s_Library_has_module := ⟨_, fd15, He.meth_ok (c.d.fact 80 (f := .meth "Library" "has_module") rfl), D15⟩
  have F_Library_initializer : Fm K (adK K).lb "initializer" "Library.initializer" s_Library_initializer := ⟨_, fd16, He.meth_ok (c.d.fact 81 (f := .meth "Library" "initializer") rfl), D16⟩
  obtain ⟨fdL, DL⟩ := c.d.def_ 48 (d := d_law) rfl
  have e := hfa.symm.trans (He.glo_ok X G (c.d.fact 43 (f := .glo "law") rfl))
  cases e
  have b := FunD.bindsA (ps := ["_law_script"]) DL fun _ _ _ _ _ _ us hl => match us, hl with | [_], _ => rfl
  refine ⟨fdL, fun s v => b s [v] rfl, fun base _ _ => ?_⟩
  have tI : Tit P w K mg base (adK K).it := tit E0'
  have o_is_name := K17.o_is_name (P := P) (base := base) T F_is_name
  have o_is_integer := K17.o_is_integer (P := P) (base := base) T F_is_integer
  have o_is_variable := K17.o_is_variable (P := P) (base := base) T F_is_variable
  have o_is_item := K17.o_is_item (P := P) (base := base) T F_is_item o_is_name o_is_integer o_is_variable
  have o_is_step := K17.o_is_step (P := P) (base := base) T F_is_step o_is_item
  have o_step_modules := K17.o_step_modules (P := P) (base := base) T F_step_modules
  have o_is_wrong := K17.o_is_wrong (P := P) (base := base) T F_is_wrong o_is_step o_step_modules
  have o_step_text := K17.o_step_text (P := P) (base := base) T F_step_text o_is_step
  have o_parse_integer := K17.o_parse_integer (P := P) (base := base) T F_parse_integer
  have o_parse_step := K17.o_parse_step (P := P) (base := base) T F_parse_step tI o_parse_integer o_is_step
  have o_step_of_line := K17.o_step_of_line (P := P) (base := base) T E0' TX.ex F_step_of_line o_parse_step
  have o_module_of_line := K17.o_module_of_line (P := P) (base := base) T F_module_of_line o_is_name
  have o_split_lines := K17.o_split_lines (P := P) (base := base) T F_split_lines
  have o_step_lines_after := K17.o_step_lines_after (P := P) (base := base) T F_step_lines_after
  have o_step_lines_problem := K17.o_step_lines_problem (P := P) (base := base) T F_step_lines_problem o_step_of_line o_is_wrong
  have o_first_wrong := K17.o_first_wrong (P := P) (base := base) T F_first_wrong o_module_of_line o_step_lines_after o_step_lines_problem
  have o_first_problem := K17.o_first_problem (P := P) (base := base) T F_first_problem o_is_wrong
  have o_check_library := K17.o_check_library (P := P) (base := base) T F_check_library o_is_name o_first_problem
  have o_Library_ini : FnOk P w K mg base CX0 10 _ fd13 ["self", "modules"] (spLInit (adK K).lb) := o_Library_init T L o_check_library D13
  have o_Library : OkC P w K mg base 10 (adK K).lb "Library" ["self", "modules"] (spLInit (adK K).lb) := ⟨(He.glo_ok X G (c.d.fact 49 (f := .glo "Library") rfl)), _, fd13, He.mkr_ok (c.d.fact 82 (f := .mkr "Library") rfl), FunD.bindsN D13 (fun _ _ _ _ _ _ us hl => match us, hl with | [_, _], _ => rfl), o_Library_ini⟩
  have o_Library_modules := K17.o_Library_modules (P := P) (base := base) T L F_Library_modules
  have o_Library_has_module := K17.o_Library_has_module (P := P) (base := base) T L F_Library_has_module
  have o_Library_initializer := K17.o_Library_initializer (P := P) (base := base) T L F_Library_initializer o_Library_has_module
  have o_library_text := K17.o_library_text (P := P) (base := base) T L F_library_text o_Library_modules o_Library_initializer o_step_text
  have o_load_library := K17.o_load_library (P := P) (base := base) T F_load_library tI o_split_lines o_module_of_line o_first_wrong o_step_lines_after o_step_of_line o_Library
  have o__law_is_label := K17.o__law_is_label (P := P) (base := base) T F__law_is_label
  have o__law_is_number := K17.o__law_is_number (P := P) (base := base) T F__law_is_number
  have o__law_head := K17.o__law_head (P := P) (base := base) T F__law_head o__law_is_label
  have o__law_step_read := K17.o__law_step_read (P := P) (base := base) T F__law_step_read o__law_is_label o__law_is_number
  have o__law_block := K17.o__law_block (P := P) (base := base) T F__law_block o__law_head
  have o__law_is_wrong_step := K17.o__law_is_wrong_step (P := P) (base := base) T F__law_is_wrong_step o__law_block o__law_step_read
  have o__law_is_wrong := K17.o__law_is_wrong (P := P) (base := base) T F__law_is_wrong o__law_head o__law_is_wrong_step
  have o__law_wrong_line := K17.o__law_wrong_line (P := P) (base := base) T F__law_wrong_line o__law_head o__law_is_wrong
  have o__law_told := K17.o__law_told (P := P) (base := base) T E0' TX F__law_told o_load_library o_library_text
  have o__law_right := K17.o__law_right (P := P) (base := base) T F__law_right o__law_wrong_line o__law_told
  have o__law_pot := K17.o__law_pot (P := P) (base := base) T F__law_pot
  have o__law_draw := K17.o__law_draw (P := P) (base := base) T F__law_draw
  have o__law_choice := K17.o__law_choice (P := P) (base := base) T F__law_choice o__law_draw
  have o__law_word := K17.o__law_word (P := P) (base := base) T F__law_word o__law_draw
  have o__law_words := K17.o__law_words (P := P) (base := base) T F__law_words o__law_word
  have o__law_mixed := K17.o__law_mixed (P := P) (base := base) T F__law_mixed o__law_draw
  have o__law_integer := K17.o__law_integer (P := P) (base := base) T F__law_integer o__law_draw
  have o__law_local_step := K17.o__law_local_step (P := P) (base := base) T F__law_local_step o__law_draw o__law_choice o__law_integer
  have o__law_read_step := K17.o__law_read_step (P := P) (base := base) T F__law_read_step o__law_choice
  have o__law_program := K17.o__law_program (P := P) (base := base) T F__law_program o__law_draw o__law_choice o__law_read_step o__law_local_step
  have o__law_modules := K17.o__law_modules (P := P) (base := base) T F__law_modules o__law_draw o__law_words o__law_mixed o__law_program
  have o__law_line := K17.o__law_line (P := P) (base := base) T F__law_line o__law_choice
  have o__law_changed := K17.o__law_changed (P := P) (base := base) T F__law_changed o__law_draw o__law_choice o__law_line
  exact o_law T DL o__law_pot o__law_draw o__law_modules o__law_changed o__law_told o__law_right
end K17

-- text K17End
set_option maxHeartbeats 0
open PySem PySem.W PySem.Calls PyProof.Rows
theorem PySem.Challenge.cw_cycleready_k17_whole_library_texts_spoil_holds : PySem.Challenge.rw_cycleready_k17_whole_library_texts_spoil.Holds := by
  w_on; o_law
  refine HandSHeadRun.head_any (r := OpenLaw.row PySem.Challenge.rw_cycleready_k17_whole_library_texts_spoil) (q := view (OpenLaw.row PySem.Challenge.rw_cycleready_k17_whole_library_texts_spoil).prog [66]) (H := K17.hk) (ob := K17.ob) (M := 6000) (loose := K17.loose) (d := HandSHeadRun.topDef (OpenLaw.row PySem.Challenge.rw_cycleready_k17_whole_library_texts_spoil).prog 66) (kwd := []) K17.ob_eq
    (by kernel_rfl) (fun s => by kernel_rfl) K17.run (by kernel_rfl) (by kernel_rfl) (by kernel_rfl) (by rfl) (by first | assumption | decide +kernel) (by decide +kernel) ⟨rfl, rfl, rfl, rfl, rfl, by decide +kernel⟩ ?hw ?hc
  case hw => w_witness2
  case hc =>
    refine K17.walk_ofG (l := PySem.Challenge.rw_cycleready_k17_whole_library_texts_spoil) (n := 63) (k := 16) (x := "_law_script") rfl (by decide) (by kernel_rfl) ⟨rfl, by decide, by decide⟩ ?F
    intro w mg fa h Y G hmg0
    obtain ⟨K, KX, c, ex⟩ := Y
    have hmg : mg ("law" : PySem.Str) = some (.ref fa) := by
      have e : (HandSHeadRun.topDef (OpenLaw.row PySem.Challenge.rw_cycleready_k17_whole_library_texts_spoil).prog 66).name = ("law" : PySem.Str) := by kernel_rfl
      rw [← e]
      exact hmg0
    obtain ⟨fd, hb, hF⟩ := K17.all_ok (P := (PySem.Challenge.rw_cycleready_k17_whole_library_texts_spoil).prog) (w := w) KX G hmg c ex
    exact ⟨K, fd, K17.spLaw K, KX, hb, fun H a ns hl _ _ hS => ⟨a, ns, rfl, hS, by omega, fun _ => rfl⟩, hF⟩
