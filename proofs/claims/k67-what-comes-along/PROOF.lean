import PyProof.Rows.All
import Wide.All
import OpenK.AllK
import Wide.FinOn
import HandS.ForMost
import HandS.More
import HandS.WordsExc
import HandS.Defaults
import HandS.Walk
import HandS.Star
import KE.GoesEnum
import HandS.IsInst
import HandS.TupAny
import HandS.TupMul
import HandS.Deep
import KE.DataEq
import KE.SortData
import HandS.Conv
import KE.KStateDown
import HandS.Head0
import HandS.Head1
import HandS.Head2
import HandS.HeadEnd
import HandS.HeadHook1
import HandS.HeadHook2
import KE.LtData
import HandS.Style
import KE.SortKeyed
import HandS.SortKw
import HandS.Property
import HandS.Sort
import PyProof.Rows.TupDisplay
import HandS.TupSets
import HandS.SetFor
import HandS.Strs
import KE.DataFind
import PyProof.ListStr
import HandS.TupLe
import HandS.ReplaceLit
import HandS.ReplaceList
import PySem.Challenge.RW_wovenframes_k67_whole_what_comes_along
set_option Elab.async false
set_option linter.all false
set_option maxRecDepth 100000
set_option maxHeartbeats 4000000
set_option autoImplicit false
section
set_option Elab.async false
set_option linter.all false
set_option maxRecDepth 100000
set_option maxHeartbeats 2000000
set_option autoImplicit false
namespace MH
open PySem PySem.Spec PyProof.Rows L2
open AutoSeq1 (wpAny_loadPart')
/-! ### a walk of a list, a tuple or a text, by its value -/
def iAny (K : PySem.W.Frag) (tl : TE) : TI := fun σ H R => tl σ H fun x H1 => (∃ a, x = .ref a ∧ (∃ xs, SqL K H1 a xs) ∧ R (Itl K a) H1) ∨ (∃ a, x = .ref a ∧ (∃ xs, SqT K H1 a xs) ∧ R (Itt K a) H1) ∨ ∃ z, x = .str z ∧ R (Its z) H1
theorem pi_any {X : Cx} {tg l : Expr} {tl : TE} (hl : PE X l tl) : PI X tg l (iAny X.K tl) := by
  refine ⟨fun pins s σ H R I h => thn (hl.run pins s σ H _ I h) fun v s1 ⟨x, H1, I1, r1, q1⟩ => ?_⟩
  have big := I1.fpOk (Nat.le_refl _) (I1.hok.fresh (Nat.le_refl s1.heap.objs.size))
  rcases q1 with ⟨a, rfl, ⟨xs, hq⟩, q⟩ | ⟨a, rfl, ⟨xs, hq⟩, q⟩ | ⟨z, rfl, q⟩
  · cases r1
    obtain ⟨its, rv, p, hz⟩ := I1.list hq
    exact wpAny_pyIter_list p.isList ⟨s1.heap.objs.size, [s1.heap.objs.size], _, _, H1, rfl, I1.kept (t' := s1.toks) fun b o e => Heap.get?_push_of_some _ e, turn_list a _, ⟨_, Heap.get?_push_size _ rfl, rfl, rfl⟩, fun b hb => by
      rw [show b = s1.heap.objs.size by simpa using hb]; exact big, q⟩
  · cases r1
    obtain ⟨its, rv, p, hz⟩ := I1.tuple hq
    exact wpAny_pyIter_tuple (show s1.heap.IsTuple a its.toArray from p) ⟨s1.heap.objs.size, [s1.heap.objs.size], _, _, H1, rfl, I1.kept (t' := s1.toks) fun b o e => Heap.get?_push_of_some _ e, turn_tuple a _, ⟨_, Heap.get?_push_size _ rfl, rfl, rfl⟩, fun b hb => by
      rw [show b = s1.heap.objs.size by simpa using hb]; exact big, q⟩
  · obtain ⟨t, rfl⟩ := r1
    cases ha : z.cps.all (· < 128)
    · exact wpAny_pyIter_wide ha (pi_one (tk := s1.toks) I1 _ (turn_str _ z t "str_iterator" (.inr rfl)) ⟨_, Heap.get?_push_size _ rfl, rfl, rfl⟩ q)
    · exact wpAny_pyIter_ascii ha (pi_one (tk := s1.toks) I1 _ (turn_str _ z t "str_ascii_iterator" (.inl rfl)) ⟨_, Heap.get?_push_size _ rfl, rfl, rfl⟩ q)
/-! ### enumerate of a tuple, of a text -/
theorem meets_enum_tup (l : Addr) (items : Array Value) (n : Nat) (dct : Option Addr) (sl : Array (Option Value)) :
    Meets (Builtin.«enumerate.__new__» ⟨[.type "enumerate", .ref l], []⟩) (fun _ R s => s.heap.get? l = some { cls := .type "tuple", dict := dct, data := .seq items n, slots := sl } ∧
      R (.ok (.ret (.ref (s.heap.push { cls := .type "tuple_iterator", data := .fields #[.ref l, .int 0 0] }).objs.size)))
        { s with heap := (s.heap.push { cls := .type "tuple_iterator", data := .fields #[.ref l, .int 0 0] }).push { cls := .type "enumerate", data := .fields #[.none, .bool false, .ref s.heap.objs.size, rawInt 0, .none, .none] } }) :=
  .of_wp fun prog w A R s h => by
    obtain ⟨hp, g, d, tk, os⟩ := s; obtain ⟨hl, h⟩ := h
    have hsub := sub_enumerate
    have hT : Heap.IsTuple (Shared.heap ⟨hp, g, d, tk, os⟩) l items := ⟨_, hl, rfl, n, rfl⟩
    wp_walk using wpAny_loadPart' hl
    refine wpAny_stack_any fun st => wpAny_pure ?_
    split
    · rename_i c _ _ _ _ _
      cases (c == Value.type "enumerate")
      · wp_walk using wpAny_loadPart' hl, wpAny_pyIter_tuple hT
        exact ⟨_, rfl, h⟩
      · wp_walk using wpAny_loadPart' hl, wpAny_pyIter_tuple hT
        exact ⟨_, rfl, h⟩
    · wp_walk using wpAny_loadPart' hl, wpAny_pyIter_tuple hT
      exact ⟨_, rfl, h⟩
section
variable {prog : Program} {w : World} {A : Around} {E : Value → Shared → Prop} {s : Shared}
theorem call_enum_tup {l : Addr} {items : Array Value} {Q : Value → Shared → Prop} (hL : s.heap.IsTuple l items)
    (h : ∀ h', IsEnum h' (s.heap.objs.size + 1) s.heap.objs.size 0 .none → h'.IsTupleIter s.heap.objs.size l 0 → h'.objs.size = s.heap.objs.size + 2 →
      (∀ b o, s.heap.get? b = some o → h'.get? b = some o) → Q (.ref (s.heap.objs.size + 1)) { s with heap := h' }) :
    wpAny (model prog w) A (call (.type "enumerate") [.ref l]) Q E s := by
  obtain ⟨⟨c, dct, dt, sl⟩, hl, hc, n, hd⟩ := hL
  replace hc : c = .type "tuple" := hc
  replace hd : dt = .seq items n := hd
  subst hc hd
  refine callType_new F.called_enumerate (by decide) (F.typeCall_enumerate_1 _) (F.newCall_enumerate_1 _) (fun obj => F.args_object_init_2 obj _) F.entry_enumerate_new (meets_enum_tup l items n dct sl) ⟨hl, ?_⟩
  have hz : (s.heap.push { cls := .type "tuple_iterator", data := .fields #[.ref l, .int 0 0] }).objs.size = s.heap.objs.size + 1 := Heap.size_push ..
  show _ ∧ _
  rw [hz]
  have he : IsEnum ((s.heap.push { cls := .type "tuple_iterator", data := .fields #[.ref l, .int 0 0] }).push
      { cls := .type "enumerate", data := .fields #[.none, .bool false, .ref s.heap.objs.size, rawInt 0, .none, .none] }) (s.heap.objs.size + 1) s.heap.objs.size 0 .none := by
    have := Heap.get?_push_size (s.heap.push { cls := .type "tuple_iterator", data := .fields #[.ref l, .int 0 0] })
      (o := { cls := .type "enumerate", data := .fields #[.none, .bool false, .ref s.heap.objs.size, rawInt 0, .none, .none] }) rfl
    rw [hz] at this; exact this
  exact ⟨⟨_, he, rfl⟩, h _ he ⟨_, Heap.get?_push_of_some _ (Heap.get?_push_size _ rfl), rfl, rfl⟩ (by rw [Heap.size_push, hz]) fun b o x => Heap.get?_push_of_some _ (Heap.get?_push_of_some _ x)⟩
end
/-- one turn of enumerate over anything that draws -/
theorem enum_turn {X : Cx} {elts : List Expr} {kk : Nat} {tpos : Pos} {e it : Addr} {fp : List Addr} {n i : Nat} {P : Nat → Value → Prop} {St : Nat → Heap → Prop} {old : Value} {pins : List (Addr × Obj)} {s : Shared} {σ : L2.St} {H : Hp} {E : Value → Shared → Prop} {R : V → Hp → Shared → Prop}
    (I : Inv X pins σ H s) (D : Draws X.prog X.w X.A.in1 it fp n P St) (he : IsEnum s.heap e it ((i : Nat) : Int) old) (hst : St i s.heap) (hlt : i < n) (hne : e ≠ it) (hef : e ∉ fp) (hf : ∀ b ∈ [e, it], FpOk X pins H b) (hil : it < s.heap.objs.size)
    (hR : ∀ (v : Value) (h'' : Heap) (tk : Nat) (x : V), P i v → RelV x v → IsEnum h'' e it (((i + 1 : Nat)) : Int) v → St (i + 1) h'' → Inv X pins σ (upd H s.heap.objs.size (.tup [.int (i : Nat), x])) { s with heap := h'', toks := tk } → R (.ref s.heap.objs.size) (upd H s.heap.objs.size (.tup [.int (i : Nat), x])) { s with heap := h'', toks := tk })
    (hv : ∀ v, P i v → ∃ x, RelV x v) :
    wpAny (model X.prog X.w) X.A (pyNext (.ref e)) (fun r s1 => ∃ u, r = some u ∧ wpAny (model X.prog X.w) X.A (letOwnedTupleGo (.Tuple elts kk tpos) (.ref e) u) (fun _ s2 => ∃ x H', Inv X pins σ H' s2 ∧ RelV x u ∧ R x H' s2) E s1) E s := by
  have hel : e < s.heap.objs.size := Heap.lt_size he
  refine wpAny_pyNext_enum_itemD D he hst hlt hne hef fun v h' tk hp ho hs' hT hsz hk => ⟨_, rfl, wpAny_letOwnedTupleGo_enum (s := { s with heap := h', toks := tk + 1 }) ho fun h'' he' sb => ?_⟩
  obtain ⟨x, rx⟩ := hv v hp
  have hT2 : h''.get? s.heap.objs.size = some { cls := .type "tuple", data := .seq #[.int i tk, v] } := (sb.2 _ (Nat.ne_of_gt hel)).trans hT
  have new : ObjOk X.prog X.w (upd H s.heap.objs.size (.tup [.int (i : Nat), x])) h'' s.heap.objs.size (.tup [.int (i : Nat), x]) :=
    ⟨by show 2 ≤ sizeLine; decide, [.int i tk, v], .cons ⟨_, rfl⟩ (.cons rx .nil), ⟨_, hT2, rfl, _, rfl⟩⟩
  have I1 : Inv X pins σ (upd H s.heap.objs.size (.tup [.int (i : Nat), x])) { s with heap := h'', toks := tk + 1 } :=
    I.turnedNew (ch := [e, it]) (fun b ob hb q => (sb.2 b (fun z => hb (by simp [z]))).trans (hk b ob (fun z => hb (by simp [z])) (fun z => hb (by simp [z])) q)) hf (Nat.le_refl _) new
  refine ⟨.ref s.heap.objs.size, _, I1, rfl, hR v h'' (tk + 1) x hp rx ?_ (D.frame _ _ _ hs' fun b hb o q => (sb.2 b fun z => hef (z ▸ hb)).trans q) I1⟩
  have e1 : ((i + 1 : Nat) : Int) = (i : Int) + 1 := by omega
  rw [e1]; exact he'
def IteT (K : PySem.W.Frag) (a : Addr) : It :=
  ⟨fun i H => ∃ (xs : List V) (x : V), SqT K H a xs ∧ xs[i]? = some x, fun i H v H' => ∃ T x, v = .ref T ∧ H T = none ∧ H' = upd H T (.tup [.int (i : Nat), x]) ∧ ∀ xs, SqT K H a xs → xs[i]? = some x, fun i H => ∃ xs : List V, SqT K H a xs ∧ xs.length = i⟩
def IteS (z : Str) : It :=
  ⟨fun i _ => i < z.cps.size, fun i H v H' => ∃ T c, v = .ref T ∧ H T = none ∧ H' = upd H T (.tup [.int (i : Nat), .str ⟨#[c]⟩]) ∧ z.cps[i]? = some c, fun i _ => z.cps.size = i⟩
theorem turn_enumT {P : Program} {w : World} {K : PySem.W.Frag} {elts : List Expr} {kk : Nat} {tpos : Pos} (a e it : Addr) :
    Turn P w K (.Tuple elts kk tpos) (IteT K a) [e, it] e (fun i h => (∃ old, IsEnum h e it ((i : Nat) : Int) old) ∧ h.IsTupleIter it a i ∧ e ≠ it) where
  mem := by simp
  obj := fun i h st b hb => by
    obtain ⟨⟨old, he⟩, ⟨o, ho, hc, hd⟩, _⟩ := st
    rcases (by simpa using hb : b = e ∨ b = it) with z | z
    · rw [z]; exact ⟨_, he, fun v q => nomatch q⟩
    · rw [z]; exact ⟨o, ho, fun v q => by rw [hd] at q; cases q⟩
  keep := fun i h h' st k => let ⟨⟨old, he⟩, hi, hne⟩ := st; ⟨⟨old, k e (by simp) _ he⟩, hi.at fun o q => k it (by simp) o q, hne⟩
  item := by
    intro X hP hw hK hc i pins s σ H E I hf st hg
    subst hP hw hK
    obtain ⟨⟨old, he⟩, hit, hne⟩ := st
    obtain ⟨xs, x, hq, hx⟩ := hg
    obtain ⟨its, rv, p, hz⟩ := I.tuple hq
    have hil : it < s.heap.objs.size := by obtain ⟨_, q, _⟩ := hit; exact Heap.lt_size q
    have hel : e < s.heap.objs.size := Heap.lt_size he
    have hai : a ≠ it := fun z => by
      obtain ⟨o1, q1, c1, _⟩ := hit
      obtain ⟨o2, q2, c2, _⟩ := p
      rw [z, q1] at q2; cases q2; rw [c1] at c2; simp at c2
    have hae : a ≠ e := fun z => by
      obtain ⟨o2, q2, c2, _⟩ := p
      rw [z, he] at q2; cases q2; simp at c2
    have hl := rv.length
    have hi : i < its.toArray.size := by
      have := (List.getElem?_eq_some_iff.mp hx).1
      simp; omega
    have D := Draws.tuple (prog := X.prog) (w := X.w) (A := X.A.in1) (I.ok.hd hc) it a hai its.toArray
    have pT : s.heap.IsTuple a its.toArray := p
    refine wpAny_mono (enum_turn (R := fun y H' s2 => (IteT X.K a).yld i H y H' ∧ ((∃ old, IsEnum s2.heap e it (((i + 1 : Nat)) : Int) old) ∧ s2.heap.IsTupleIter it a (i + 1) ∧ e ≠ it) ∧ ∀ b ∈ [e, it], H' b = none) I D he ⟨hit, pT⟩ hi hne (by simp; exact ⟨hne, Ne.symm hae⟩) hf hil ?_ ?_) (fun r s1 ⟨u, e1, q⟩ => ⟨u, e1, q⟩) fun _ _ z => z
    · intro v h'' tk y hp ry he' hs' I1
      refine ⟨⟨_, y, rfl, I.hok.fresh (Nat.le_refl _), rfl, fun ys hy => ?_⟩, ⟨⟨v, he'⟩, hs'.1, hne⟩, fun b hb => ?_⟩
      · rw [I.tuple_inj hy hq, hx]
        obtain ⟨u2, e2, r2⟩ := rv.get hx
        have e3 : its[i]? = some v := by simpa using hp
        rw [e3] at e2; cases e2
        rw [r2.inj ry]
      · have hb' : b < s.heap.objs.size := by
          rcases (by simpa using hb : b = e ∨ b = it) with z | z
          · rw [z]; exact hel
          · rw [z]; exact hil
        rw [upd_ne (Nat.ne_of_lt hb')]
        exact (hf b hb).1
    · intro v hp
      obtain ⟨u2, e2, r2⟩ := rv.get hx
      have e3 : its[i]? = some v := by simpa using hp
      rw [e3] at e2; cases e2
      exact ⟨x, r2⟩
  done := by
    intro X hP hw hK hc i pins s σ H E I hf st hg
    subst hP hw hK
    obtain ⟨⟨old, he⟩, hit, hne⟩ := st
    obtain ⟨xs, hq, hx⟩ := hg
    obtain ⟨its, rv, p, hz⟩ := I.tuple hq
    obtain ⟨f0, f1, f2, f3, f4, f5⟩ := hf it (by simp)
    have hl := rv.length
    have hai : a ≠ it := fun z => by
      obtain ⟨o1, q1, c1, _⟩ := hit
      obtain ⟨o2, q2, c2, _⟩ := p
      rw [z, q1] at q2; cases q2; rw [c1] at c2; simp at c2
    have hi : i = its.toArray.size := by simp; omega
    have D := Draws.tuple (prog := X.prog) (w := X.w) (A := X.A.in1) (I.ok.hd hc) it a hai its.toArray
    have pT : s.heap.IsTuple a its.toArray := p
    exact wpAny_pyNext_enum_endD D he (by rw [← hi]; exact ⟨hit, pT⟩) fun h' eb => ⟨rfl, I.turned (t' := s.toks) (fun b o hb q => eb b o hb q) f0 f1 f3 f4 f5⟩
  self := fun A i s Q E st h => let ⟨⟨_, he⟩, _⟩ := st; wpAny_pyIter_enum he h
theorem turn_enumS {P : Program} {w : World} {K : PySem.W.Frag} {elts : List Expr} {kk : Nat} {tpos : Pos} (z : Str) (t : Tok) (e it : Addr) :
    Turn P w K (.Tuple elts kk tpos) (IteS z) [e, it] e (fun i h => (∃ old, IsEnum h e it ((i : Nat) : Int) old) ∧ h.IsStrIter it (strIterType z) z t i ∧ e ≠ it) where
  mem := by simp
  obj := fun i h st b hb => by
    obtain ⟨⟨old, he⟩, ⟨o, ho, hc, hd⟩, _⟩ := st
    rcases (by simpa using hb : b = e ∨ b = it) with z | z
    · rw [z]; exact ⟨_, he, fun v q => nomatch q⟩
    · rw [z]; exact ⟨o, ho, fun v q => by rw [hd] at q; cases q⟩
  keep := fun i h h' st k => let ⟨⟨old, he⟩, hi, hne⟩ := st; ⟨⟨old, k e (by simp) _ he⟩, (let ⟨o, ho, r⟩ := hi; ⟨o, k it (by simp) o ho, r⟩), hne⟩
  item := by
    intro X hP hw hK hc i pins s σ H E I hf st hg
    subst hP hw hK
    obtain ⟨⟨old, he⟩, hit, hne⟩ := st
    have hil : it < s.heap.objs.size := by obtain ⟨_, q, _⟩ := hit; exact Heap.lt_size q
    have hel : e < s.heap.objs.size := Heap.lt_size he
    have D := Draws.text (prog := X.prog) (w := X.w) (A := X.A.in1) (I.ok.hd hc) it z t
    refine wpAny_mono (enum_turn (R := fun y H' s2 => (IteS z).yld i H y H' ∧ ((∃ old, IsEnum s2.heap e it (((i + 1 : Nat)) : Int) old) ∧ s2.heap.IsStrIter it (strIterType z) z t (i + 1) ∧ e ≠ it) ∧ ∀ b ∈ [e, it], H' b = none) I D he hit hg hne (by simp; exact hne) hf hil ?_ ?_) (fun r s1 ⟨u, e1, q⟩ => ⟨u, e1, q⟩) fun _ _ z => z
    · intro v h'' tk y hp ry he' hs' I1
      obtain ⟨c, u, hc1, rfl⟩ := hp
      have ey : y = .str ⟨#[c]⟩ := RelV.inj ry ⟨u, rfl⟩
      subst ey
      refine ⟨⟨_, c, rfl, I.hok.fresh (Nat.le_refl _), rfl, hc1⟩, ⟨⟨_, he'⟩, hs', hne⟩, fun b hb => ?_⟩
      have hb' : b < s.heap.objs.size := by
        rcases (by simpa using hb : b = e ∨ b = it) with z | z
        · rw [z]; exact hel
        · rw [z]; exact hil
      rw [upd_ne (Nat.ne_of_lt hb')]
      exact (hf b hb).1
    · intro v hp
      obtain ⟨c, u, hc1, rfl⟩ := hp
      exact ⟨.str ⟨#[c]⟩, u, rfl⟩
  done := by
    intro X hP hw hK hc i pins s σ H E I hf st hg
    subst hP hw hK
    obtain ⟨⟨old, he⟩, hit, hne⟩ := st
    obtain ⟨f0, f1, f2, f3, f4, f5⟩ := hf it (by simp)
    have D := Draws.text (prog := X.prog) (w := X.w) (A := X.A.in1) (I.ok.hd hc) it z t
    have hg' : z.cps.size = i := hg
    exact wpAny_pyNext_enum_endD D he (by rw [hg']; exact hit) fun h' eb => ⟨rfl, I.turned (t' := s.toks) (fun b o hb q => eb b o hb q) f0 f1 f3 f4 f5⟩
  self := fun A i s Q E st h => let ⟨⟨_, he⟩, _⟩ := st; wpAny_pyIter_enum he h
/-- enumerate(a list, a tuple, a text) -/
def iEnumA (K : PySem.W.Frag) (ta : TA) : TI := fun σ H R => ta σ H fun vs H1 => (∃ a xs, vs = [.ref a] ∧ SqL K H1 a xs ∧ R (Ite K a) H1) ∨ (∃ a xs, vs = [.ref a] ∧ SqT K H1 a xs ∧ R (IteT K a) H1) ∨ ∃ z, vs = [.str z] ∧ R (IteS z) H1
theorem pi_enumA {X : Cx} {e : Expr} {ta : TA} {p pos tpos : Pos} {elts : List Expr} {kk : Nat} (hg : Gl X "enumerate") (hm : X.mg "enumerate" = none) (ha : PA X [e] ta) (hs : starEach [e] X.env = [(false, eval e X.env)] := by rfl) :
    PI X (.Tuple elts kk tpos) (.Call (.Name "enumerate" p) [e] [] pos) (iEnumA X.K ta) := by
  refine ⟨fun pins s σ H R I h => Call_ (ld_blt I hg hm boot_enumerate (PyProof.Rows.callWith_type1 (thn (ha.run pos pins s σ H _ I h) fun us s1 ⟨vs, H1, I1, r1, q1⟩ => ?_) hs rfl))⟩
  have fp : ∀ b ∈ [s1.heap.objs.size + 1, s1.heap.objs.size], FpOk X pins H1 b := fun b hb => by
    have hle : s1.heap.objs.size ≤ b := by
      rcases (by simpa using hb : b = s1.heap.objs.size + 1 ∨ b = s1.heap.objs.size) with z | z
      · rw [z]; exact Nat.le_add_right _ _
      · rw [z]; exact Nat.le_refl _
    exact I1.fpOk hle (I1.hok.fresh hle)
  rcases q1 with ⟨a, xs, rfl, hq, q⟩ | ⟨a, xs, rfl, hq, q⟩ | ⟨z, rfl, q⟩
  · cases r1 with
    | cons r rr =>
      cases rr
      cases r
      obtain ⟨its, rv, p', hz⟩ := I1.list hq
      refine call_enumerate_list p'.isList fun h' he hit hsz hk => wpAny_pyIter_enum he ?_
      have I2 : Inv X pins σ H1 { s1 with heap := h' } := I1.kept (t' := s1.toks) hk
      exact ⟨s1.heap.objs.size + 1, [s1.heap.objs.size + 1, s1.heap.objs.size], _, _, H1, rfl, I2, turn_enum a (s1.heap.objs.size + 1) s1.heap.objs.size, ⟨⟨.none, he⟩, hit, Nat.succ_ne_self _⟩, fp, q⟩
  · cases r1 with
    | cons r rr =>
      cases rr
      cases r
      obtain ⟨its, rv, p', hz⟩ := I1.tuple hq
      refine call_enum_tup (show s1.heap.IsTuple a its.toArray from p') fun h' he hit hsz hk => wpAny_pyIter_enum he ?_
      have I2 : Inv X pins σ H1 { s1 with heap := h' } := I1.kept (t' := s1.toks) hk
      exact ⟨s1.heap.objs.size + 1, [s1.heap.objs.size + 1, s1.heap.objs.size], _, _, H1, rfl, I2, turn_enumT a (s1.heap.objs.size + 1) s1.heap.objs.size, ⟨⟨.none, he⟩, hit, Nat.succ_ne_self _⟩, fp, q⟩
  · cases r1 with
    | cons r rr =>
      cases rr
      obtain ⟨t, rfl⟩ := r
      refine call_enumerate_str fun h' he hit hsz hk => wpAny_pyIter_enum he ?_
      have I2 : Inv X pins σ H1 { s1 with heap := h' } := I1.kept (t' := s1.toks) hk
      exact ⟨s1.heap.objs.size + 1, [s1.heap.objs.size + 1, s1.heap.objs.size], _, _, H1, rfl, I2, turn_enumS z t (s1.heap.objs.size + 1) s1.heap.objs.size, ⟨⟨.none, he⟩, hit, Nat.succ_ne_self _⟩, fp, q⟩

/-! ### len of an own instance -/
def rLenO (C : Addr) (sp : Sp) : List V → Hp → VK → Prop := fun xs H Q => ∃ a dx fs, xs = [.ref a] ∧ H a = some (.ins C dx fs) ∧ sp [.ref a] H (fun v H' => ∃ n : Int, v = .int n ∧ 0 ≤ n ∧ n < 2 ^ 63 ∧ Q v H') E0
theorem call_lenO {X : Cx} {k : Nat} {f C : Addr} {fd : FuncData} {ps : List Str} {sp : Sp} (m : Meth X.K C "__len__" f) (F : FnOk X.prog X.w X.K X.mg X.base CX0 k f fd ps sp) (hr : Room (k + 1) X.A) (hb : Binds X.K fd ps []) : CallR X (.builtin "len") (rLenO C sp) := by
  intro pins s σ H xs us Q I rx h
  obtain ⟨a, dx, fs, rfl, ea, q⟩ := h
  cases rx with
  | cons r rr =>
    cases rr
    cases r
    obtain ⟨mA, O, _⟩ := ins_get I.hok ea
    obtain ⟨od, J, _⟩ := O.look
    obtain ⟨mm, Fr⟩ := I.fr
    refine PySem.W.len_K Fr I.ok.mod.kin J m.at_ m.fn (wpAny_call ?_)
    have hl : ([Value.ref a] ++ []).length = ps.length := by rw [← F.len _ _ _ _ q]; rfl
    refine codeAny_mono (F.run X.A.in1 X.stack s H ⟨[.ref a], []⟩ [.ref a] [.ref a] _ E0 hr.in1 I.env0.in1 (hb _ [.ref a] I.kIn hl) (.cons rfl .nil) q) fun r s' hq => ?_
    cases r with
    | error er => exact hq.elim
    | ok fl =>
      cases fl with
      | ret u =>
        obtain ⟨v, H', I3, rv, n, rfl, h0, h1, q3⟩ := I.after hq
        obtain ⟨t, rfl⟩ := rv
        exact ⟨⟨h0, h1⟩, .int n, H', I3.tok _, ⟨_, rfl⟩, q3⟩
      | next => exact False.elim hq
      | brk => exact False.elim hq
      | cont => exact False.elim hq

/-! ### [*a, *b]: a tuple, a list, a text -/
def signs (z : Str) : List V := z.cps.toList.map fun c => V.str ⟨#[c]⟩
theorem vals_of : ∀ {xs : List V} {us : List Value}, xs.length = us.length → (∀ (i : Nat) (x : V) (v : Value), xs[i]? = some x → us[i]? = some v → RelV x v) → Vals xs us
  | [], [], _, _ => .nil
  | [], _ :: _, h, _ => by cases h
  | _ :: _, [], h, _ => by cases h
  | x :: xs, v :: us, h, k => .cons (k 0 x v rfl rfl) (vals_of (by simpa using h) fun i y w hy hw => k (i + 1) y w (by simpa using hy) (by simpa using hw))
theorem star_str {X : Cx} {pins : List (Addr × Obj)} {σ : L2.St} {H : Hp} {s : Shared} {z : Str} {t : Tok} {E : Value → Shared → Prop} {Q : List Value → Shared → Prop} (hc : X.calm = true) (I : Inv X pins σ H s) (hz : z.cps.size ≤ sizeLine) (hQ : ∀ us s', Inv X pins σ H s' → Vals (signs z) us → Q us s') :
    PySem.W.StarOf (model X.prog X.w) X.A E (.str z t) Q s := by
  have w : wpAny (model X.prog X.w) X.A (collect (.str z t)) Q E s := by
    refine wpAny_collect_str (I.ok.hd hc) z t (fun s' acc hk hg hd ho hi => hQ _ s' ?_ ?_) hz
    · obtain ⟨h, g, d, tk, os⟩ := s
      obtain ⟨h', g', d', tk', os'⟩ := s'
      simp only at hg hd ho hk
      subst hg hd ho
      exact I.kept hk
    · refine vals_of (by simp [signs, hi.1]) fun i x v hx hv => ?_
      obtain ⟨c, tk, hc1, rfl⟩ := hi.2 i v (by simpa using hv)
      simp only [signs, List.getElem?_map, Array.getElem?_toList, hc1, Option.map_some, Option.some.injEq] at hx
      subst hx
      exact ⟨tk, rfl⟩
  unfold PySem.W.StarOf notIterableAtAll
  exact wpAny_bind (wpAny_specialOf (T := "str") (v := .str z t) rfl PySem.F.slot_str_iter.lookup (wpAny_pure ⟨rfl, w⟩))
def tStarA (K : PySem.W.Frag) (te : TE) (t : TA) : TA := fun σ H Q => te σ H fun x H1 => (∃ p xs, x = V.ref p ∧ (SqT K H1 p xs ∨ SqL K H1 p xs) ∧ t σ H1 fun ys H2 => Q (xs ++ ys) H2) ∨ ∃ z, x = V.str z ∧ z.cps.size ≤ sizeLine ∧ t σ H1 fun ys H2 => Q (signs z ++ ys) H2
theorem pa_starA {X : Cx} {e : Expr} {es : List Expr} {te : TE} {t : TA} {p : Pos} (hc : X.calm = true) (he : PE X e te) (hr : PA X es t) (hs : starEach (.Starred e p :: es) X.env = (true, eval e X.env) :: starEach es X.env := by rfl) : PA X (.Starred e p :: es) (tStarA X.K te t) := by
  refine ⟨fun pos pins s σ H Q I h => PySem.W.items_star (thn (he.run pins s σ H _ I h) fun v s1 ⟨y, H1, I1, ry, q⟩ => ?_) hs⟩
  rcases q with ⟨a, xs, rfl, hx, q⟩ | ⟨z, rfl, hz, q⟩
  · obtain rfl : v = Value.ref a := ry
    exact StX.star_any I1 hx fun us s2 I2 rv => thn (hr.run pos pins s2 σ H1 _ I2 q) fun ws s3 ⟨vs, H3, I3, r3, q3⟩ => ⟨xs ++ vs, H3, I3, rv.append r3, q3⟩
  · obtain ⟨t, rfl⟩ := ry
    exact star_str hc I1 hz fun us s2 I2 rv => thn (hr.run pos pins s2 σ H1 _ I2 q) fun ws s3 ⟨vs, H3, I3, r3, q3⟩ => ⟨signs z ++ vs, H3, I3, rv.append r3, q3⟩
end MH
end
section
set_option Elab.async false
set_option linter.all false
set_option maxRecDepth 100000
set_option maxHeartbeats 2000000
set_option autoImplicit false
namespace ML
open PySem L2

/-- data: what a value is worth, by value -/
inductive D where
  | non | bl (b : Bool) | int (i : Int) | str (s : Str) | tup (xs : List D) | lst (xs : List D)
  | scr (ns : List Int) | dk (ks : List Key) (xs : List D) | dt (ks : List (List Key)) (xs : List D) | obj (c : Nat) (fs : List Str) (xs : List D)
  deriving Inhabited

def Ex (H H' : Hp) : Prop := ∀ a o, H a = some o → H' a = some o
theorem Ex.refl (H : Hp) : Ex H H := fun _ _ h => h
theorem Ex.trans {H H1 H2 : Hp} (a : Ex H H1) (b : Ex H1 H2) : Ex H H2 := fun x o h => b x o (a x o h)
theorem Ex.free {H H' : Hp} {p : Addr} (e : Ex H H') (h : H' p = none) : H p = none := by
  cases q : H p with
  | none => rfl
  | some o => rw [e p o q] at h; cases h
theorem Ex.upd {H : Hp} {p : Addr} {o : HO} (h : H p = none) : Ex H (upd H p o) := fun a u e => by
  rw [upd_ne (ne_of_none e h)]; exact e
theorem Ex.both {G H : Hp} {p : Addr} {o : HO} (e : Ex G H) : Ex (L2.upd G p o) (L2.upd H p o) := fun a u q => by
  by_cases h : a = p
  · subst h; rw [upd_same] at q ⊢; exact q
  · rw [upd_ne h] at q ⊢; exact e a u q
/-- an object that G does not know may change -/
theorem Ex.mut {G H : Hp} {p : Addr} {o : HO} (e : Ex G H) (h : G p = none) : Ex G (L2.upd H p o) := fun a u ha => by
  rw [upd_ne (ne_of_none ha h)]; exact e a u ha
theorem ex_rd {H H' : Hp} {a : Addr} {u : HO} (e : Ex H H') (h : Rd H a u) : Rd H' a u := by
  rcases h with h | ⟨o, h⟩
  · exact Or.inl (e a _ h)
  · exact Or.inr ⟨o, e a _ h⟩
theorem ex_l {K : PySem.W.Frag} {H H' : Hp} {a : Addr} {xs : List V} (e : Ex H H') (h : SqL K H a xs) : SqL K H' a xs := by
  rcases h with h | h
  · exact Or.inl (ex_rd e h)
  · exact Or.inr h
theorem ex_t {K : PySem.W.Frag} {H H' : Hp} {a : Addr} {xs : List V} (e : Ex H H') (h : H a = some (.tup xs)) : SqT K H' a xs := SqT.of (e _ _ h)

/-- the written part, the classes by number, the errors by number -/
structure Uv where
  K : PySem.W.Frag
  cl : Nat → Addr
  xc : Nat → Addr

mutual
/-- the value v is worth d, by what G knows -/
def Rep (u : Uv) (G : Hp) : D → V → Prop
  | .non, v => v = .non
  | .bl b, v => v = .bl b
  | .int i, v => v = .int i
  | .str s, v => v = .str s
  | .tup ds, v => ∃ a vs, v = .ref a ∧ G a = some (.tup vs) ∧ RepL u G ds vs
  | .lst ds, v => ∃ a vs, v = .ref a ∧ G a = some (.lst vs) ∧ RepL u G ds vs
  | .scr ns, v => ∃ a, v = .ref a ∧ SqL u.K G a (ns.map V.int)
  | .dk ks ds, v => ∃ a ws, v = .ref a ∧ G a = some (.dK (ks.zip ws)) ∧ ks.length = ws.length ∧ RepL u G ds ws
  | .dt ks ds, v => ∃ a ws, v = .ref a ∧ G a = some (.dT (ks.zip ws)) ∧ ks.length = ws.length ∧ RepL u G ds ws
  | .obj c fs ds, v => ∃ a dx ws, v = .ref a ∧ G a = some (.ins (u.cl c) dx (fs.zip ws)) ∧ fs.length = ws.length ∧ RepL u G ds ws
def RepL (u : Uv) (G : Hp) : List D → List V → Prop
  | [], vs => vs = []
  | d :: ds, vs => ∃ v r, vs = v :: r ∧ Rep u G d v ∧ RepL u G ds r
end
section
variable {u : Uv} {G G' : Hp}
mutual
theorem Rep.mono (e : Ex G G') : ∀ (d : D) {v : V}, Rep u G d v → Rep u G' d v
  | .non, _, h => h
  | .bl _, _, h => h
  | .int _, _, h => h
  | .str _, _, h => h
  | .tup ds, v, h => by
    simp only [Rep] at h ⊢
    obtain ⟨a, vs, r, s, t⟩ := h
    exact ⟨a, vs, r, e _ _ s, RepL.mono e ds t⟩
  | .lst ds, v, h => by
    simp only [Rep] at h ⊢
    obtain ⟨a, vs, r, s, t⟩ := h
    exact ⟨a, vs, r, e _ _ s, RepL.mono e ds t⟩
  | .scr ns, v, h => by
    simp only [Rep] at h ⊢
    obtain ⟨a, r, s⟩ := h
    exact ⟨a, r, ex_l e s⟩
  | .dk ks ds, v, h => by
    simp only [Rep] at h ⊢
    obtain ⟨a, ws, r, s, l, t⟩ := h
    exact ⟨a, ws, r, e _ _ s, l, RepL.mono e ds t⟩
  | .dt ks ds, v, h => by
    simp only [Rep] at h ⊢
    obtain ⟨a, ws, r, s, l, t⟩ := h
    exact ⟨a, ws, r, e _ _ s, l, RepL.mono e ds t⟩
  | .obj c fs ds, v, h => by
    simp only [Rep] at h ⊢
    obtain ⟨a, dx, ws, r, s, l, t⟩ := h
    exact ⟨a, dx, ws, r, e _ _ s, l, RepL.mono e ds t⟩
theorem RepL.mono (e : Ex G G') : ∀ (ds : List D) {vs : List V}, RepL u G ds vs → RepL u G' ds vs
  | [], _, h => h
  | d :: ds, vs, h => by
    simp only [RepL] at h ⊢
    obtain ⟨v, r, q, h1, h2⟩ := h
    exact ⟨v, r, q, Rep.mono e d h1, RepL.mono e ds h2⟩
end
theorem RepL.length : ∀ {ds : List D} {vs : List V}, RepL u G ds vs → ds.length = vs.length
  | [], _, h => by simp only [RepL] at h; subst h; rfl
  | d :: ds, vs, h => by
    simp only [RepL] at h
    obtain ⟨v, r, rfl, _, h2⟩ := h
    simp [RepL.length h2]
theorem RepL.get : ∀ {ds : List D} {vs : List V} {i : Nat} {d : D}, RepL u G ds vs → ds[i]? = some d → ∃ v, vs[i]? = some v ∧ Rep u G d v
  | [], _, _, _, _, e => by simp at e
  | d :: ds, vs, 0, x, h, e => by
    simp only [RepL] at h
    obtain ⟨v, r, rfl, h1, _⟩ := h
    simp at e; subst e
    exact ⟨v, rfl, h1⟩
  | d :: ds, vs, i + 1, x, h, e => by
    simp only [RepL] at h
    obtain ⟨v, r, rfl, _, h2⟩ := h
    simpa using RepL.get (i := i) h2 (by simpa using e)
theorem RepL.getV : ∀ {ds : List D} {vs : List V} {i : Nat} {v : V}, RepL u G ds vs → vs[i]? = some v → ∃ d, ds[i]? = some d ∧ Rep u G d v
  | [], vs, _, _, h, e => by simp only [RepL] at h; subst h; simp at e
  | d :: ds, vs, 0, x, h, e => by
    simp only [RepL] at h
    obtain ⟨v, r, rfl, h1, _⟩ := h
    simp at e; subst e
    exact ⟨d, rfl, h1⟩
  | d :: ds, vs, i + 1, x, h, e => by
    simp only [RepL] at h
    obtain ⟨v, r, rfl, _, h2⟩ := h
    simpa using RepL.getV (i := i) h2 (by simpa using e)
theorem RepL.append : ∀ {ds es : List D} {vs ws : List V}, RepL u G ds vs → RepL u G es ws → RepL u G (ds ++ es) (vs ++ ws)
  | [], _, _, _, h, h' => by simp only [RepL] at h; subst h; exact h'
  | d :: ds, es, vs, ws, h, h' => by
    simp only [RepL] at h
    obtain ⟨v, r, rfl, h1, h2⟩ := h
    exact ⟨v, r ++ ws, rfl, h1, RepL.append h2 h'⟩
theorem RepL.one {d : D} {v : V} (h : Rep u G d v) : RepL u G [d] [v] := ⟨v, [], rfl, h, rfl⟩
theorem RepL.snoc {ds : List D} {vs : List V} {d : D} {v : V} (h : RepL u G ds vs) (h' : Rep u G d v) : RepL u G (ds ++ [d]) (vs ++ [v]) := h.append (RepL.one h')
theorem RepL.take : ∀ {ds : List D} {vs : List V} (n : Nat), RepL u G ds vs → RepL u G (ds.take n) (vs.take n)
  | _, _, 0, _ => by simp [RepL]
  | [], _, n + 1, h => by simp only [RepL] at h; subst h; simp [RepL]
  | d :: ds, vs, n + 1, h => by
    simp only [RepL] at h
    obtain ⟨v, r, rfl, h1, h2⟩ := h
    exact ⟨v, r.take n, rfl, h1, RepL.take n h2⟩
theorem RepL.drop : ∀ {ds : List D} {vs : List V} (n : Nat), RepL u G ds vs → RepL u G (ds.drop n) (vs.drop n)
  | _, _, 0, h => h
  | [], _, n + 1, h => by simp only [RepL] at h; subst h; simp [RepL]
  | d :: ds, vs, n + 1, h => by
    simp only [RepL] at h
    obtain ⟨v, r, rfl, h1, h2⟩ := h
    exact RepL.drop n h2
theorem RepL.set : ∀ {ds : List D} {vs : List V} (n : Nat) {d : D} {v : V}, RepL u G ds vs → Rep u G d v → RepL u G (ds.set n d) (vs.set n v)
  | [], _, _, _, _, h, _ => by simp only [RepL] at h; subst h; simp [RepL]
  | d :: ds, vs, 0, e, w, h, h' => by
    simp only [RepL] at h
    obtain ⟨v, r, rfl, h1, h2⟩ := h
    exact ⟨w, r, rfl, h', h2⟩
  | d :: ds, vs, n + 1, e, w, h, h' => by
    simp only [RepL] at h
    obtain ⟨v, r, rfl, h1, h2⟩ := h
    exact ⟨v, r.set n w, rfl, h1, RepL.set n h2 h'⟩
theorem RepL.dropLast : ∀ {ds : List D} {vs : List V}, RepL u G ds vs → RepL u G ds.dropLast vs.dropLast := fun {ds vs} h => by
  rw [List.dropLast_eq_take, List.dropLast_eq_take, h.length]
  exact h.take _
end

/-! ### slots -/
inductive Sl where
  | no | fz (d : D) | ow (d : D)
  deriving Inhabited
abbrev Env := List Sl
/-- an object of one's own -/
def Own (u : Uv) (G H : Hp) (l : Addr) : D → Prop
  | .lst ds => ∃ vs, H l = some (.lst vs) ∧ RepL u G ds vs
  | .dk ks ds => ∃ ws, H l = some (.dK (ks.zip ws)) ∧ ks.length = ws.length ∧ RepL u G ds ws
  | .dt ks ds => ∃ ws, H l = some (.dT (ks.zip ws)) ∧ ks.length = ws.length ∧ RepL u G ds ws
  | .obj c fs ds => ∃ dx ws, H l = some (.ins (u.cl c) dx (fs.zip ws)) ∧ fs.length = ws.length ∧ RepL u G ds ws
  | _ => False
theorem Own.mono {u : Uv} {G G' H H' : Hp} {l : Addr} {d : D} (h : Own u G H l d) (e : Ex G G') (eh : ∀ o, H l = some o → H' l = some o) : Own u G' H' l d := by
  cases d with
  | lst ds => obtain ⟨vs, a, b⟩ := h; exact ⟨vs, eh _ a, RepL.mono e _ b⟩
  | dk ks ds => obtain ⟨vs, a, l, b⟩ := h; exact ⟨vs, eh _ a, l, RepL.mono e _ b⟩
  | dt ks ds => obtain ⟨vs, a, l, b⟩ := h; exact ⟨vs, eh _ a, l, RepL.mono e _ b⟩
  | obj c fs ds => obtain ⟨dx, vs, a, l, b⟩ := h; exact ⟨dx, vs, eh _ a, l, RepL.mono e _ b⟩
  | _ => exact h.elim
theorem Own.has {u : Uv} {G H : Hp} {l : Addr} {d : D} (h : Own u G H l d) : ∃ o, H l = some o := by
  cases d with
  | lst ds => obtain ⟨vs, a, b⟩ := h; exact ⟨_, a⟩
  | dk ks ds => obtain ⟨vs, a, l, b⟩ := h; exact ⟨_, a⟩
  | dt ks ds => obtain ⟨vs, a, l, b⟩ := h; exact ⟨_, a⟩
  | obj c fs ds => obtain ⟨dx, vs, a, l, b⟩ := h; exact ⟨_, a⟩
  | _ => exact h.elim
def SlOk (u : Uv) (B G H : Hp) (o : Option V) : Sl → Prop
  | .no => True
  | .fz d => ∃ v, o = some v ∧ Rep u G d v
  | .ow d => ∃ l, o = some (.ref l) ∧ G l = none ∧ B l = none ∧ Own u G H l d
/-- what B has is no newer known in G' than in G, but for tuples -/
def Nw (B G G' : Hp) : Prop := ∀ a o, B a = some o → G' a = G a ∨ ∃ vs, o = .tup vs
theorem Nw.refl {B G : Hp} : Nw B G G := fun _ _ _ => .inl rfl
theorem Nw.of {B G G' : Hp} (h : ∀ a o, B a = some o → G' a = G a) : Nw B G G' := fun a o e => .inl (h a o e)
theorem Nw.trans {B G G1 G2 : Hp} (h1 : Nw B G G1) (h2 : Nw B G1 G2) : Nw B G G2 := fun a o e => by
  rcases h2 a o e with q | q
  · rcases h1 a o e with p | p
    · exact .inl (q.trans p)
    · exact .inr p
  · exact .inr q
theorem Nw.less {B B' G G' : Hp} (h : Nw B' G G') (e : Ex B B') : Nw B G G' := fun a o q => h a o (e a o q)
theorem Nw.at_ {B G G' : Hp} (h : Nw B G G') {a : Addr} {o : HO} (e : B a = some o) (ht : ∀ vs, o ≠ .tup vs) : G' a = G a := by
  rcases h a o e with q | ⟨vs, q⟩
  · exact q
  · exact absurd q (ht vs)
theorem Own.ntup {u : Uv} {G H : Hp} {l : Addr} {d : D} (h : Own u G H l d) {o : HO} (e : H l = some o) : ∀ vs, o ≠ .tup vs := by
  intro vs q
  subst q
  cases d with
  | lst ds => obtain ⟨vs, a, b⟩ := h; rw [a] at e; cases e
  | dk ks ds => obtain ⟨vs, a, l, b⟩ := h; rw [a] at e; cases e
  | dt ks ds => obtain ⟨vs, a, l, b⟩ := h; rw [a] at e; cases e
  | obj c fs ds => obtain ⟨dx, vs, a, l, b⟩ := h; rw [a] at e; cases e
  | _ => exact h.elim
/-- the slots' values are worth ε. B: what is to stay as it is (the callers' things); G0: what was known at the entry -/
structure RepE (u : Uv) (B G0 G H : Hp) (σ : St) (ε : Env) : Prop where
  len : σ.length = ε.length
  g0 : Ex G0 G
  gb : Nw B G0 G
  gh : Ex G H
  bh : Ex B H
  sl : ∀ (i : Nat) (s : Sl), ε[i]? = some s → ∃ o, σ[i]? = some o ∧ SlOk u B G H o s
  dj : ∀ (i j : Nat) (a : Addr) (d d' : D), i ≠ j → ε[i]? = some (.ow d) → ε[j]? = some (.ow d') → σ[i]? = some (some (.ref a)) → σ[j]? ≠ some (some (.ref a))
section
variable {u : Uv} {B G0 G G' H H' : Hp} {σ : St} {ε : Env}
/-- the heaps grow; the owned objects and B are kept -/
theorem RepE.grow (R : RepE u B G0 G H σ ε) (e : Ex G G') (gb : Nw H G G') (eh : Ex H H') (gh : Ex G' H') : RepE u B G0 G' H' σ ε := by
  refine ⟨R.len, R.g0.trans e, R.gb.trans (gb.less R.bh), gh, R.bh.trans eh, fun i s h => ?_, R.dj⟩
  obtain ⟨o, h1, h2⟩ := R.sl i s h
  refine ⟨o, h1, ?_⟩
  cases s with
  | no => trivial
  | fz d => obtain ⟨v, a, b⟩ := h2; exact ⟨v, a, b.mono e⟩
  | ow d =>
    obtain ⟨l, a, b, c, w⟩ := h2
    obtain ⟨ob, q⟩ := w.has
    exact ⟨l, a, (gb.at_ q (w.ntup q)).trans b, c, w.mono e fun _ z => eh _ _ z⟩
/-- a new thing, known from now on -/
theorem RepE.new (R : RepE u B G0 G H σ ε) {p : Addr} (hp : H p = none) (o : HO) : RepE u B G0 (upd G p o) (upd H p o) σ ε :=
  R.grow (Ex.upd (R.gh.free hp)) (Nw.of fun a _ h => upd_ne (ne_of_none h hp)) (Ex.upd hp) R.gh.both
theorem RepE.exn (R : RepE u B G0 G H σ ε) {p : Addr} (hp : H p = none) (o : HO) : Ex G (upd G p o) := Ex.upd (R.gh.free hp)
/-- a new thing, not known (one's own) -/
theorem RepE.lay (R : RepE u B G0 G H σ ε) {p : Addr} (hp : H p = none) (o : HO) : RepE u B G0 G (upd H p o) σ ε :=
  R.grow (Ex.refl _) Nw.refl (Ex.upd hp) (R.gh.trans (Ex.upd hp))
theorem RepE.free (R : RepE u B G0 G H σ ε) {p : Addr} (hp : H p = none) : G p = none ∧ B p = none ∧ G0 p = none := ⟨R.gh.free hp, R.bh.free hp, R.g0.free (R.gh.free hp)⟩
theorem RepE.setF (R : RepE u B G0 G H σ ε) (i : Nat) {d : D} {v : V} (h : Rep u G d v) : RepE u B G0 G H (σ.set i (some v)) (ε.set i (.fz d)) := by
  refine ⟨by simp [R.len], R.g0, R.gb, R.gh, R.bh, fun j s hs => ?_, fun j k a d1 d2 hjk h1 h2 h3 => ?_⟩
  · by_cases hj : j = i
    · subst hj
      have hl : j < ε.length := by
        have := List.getElem?_eq_some_iff.mp hs
        simpa using this.1
      rw [List.getElem?_set_self hl] at hs
      cases hs
      exact ⟨some v, List.getElem?_set_self (by rw [R.len]; exact hl), v, rfl, h⟩
    · rw [List.getElem?_set_ne (Ne.symm hj)] at hs ⊢
      exact R.sl j s hs
  · have hj : j ≠ i := fun e => by
      subst e
      by_cases hl : j < ε.length
      · rw [List.getElem?_set_self hl] at h1; cases h1
      · rw [List.getElem?_eq_none (by simpa using hl)] at h1; cases h1
    have hk : k ≠ i := fun e => by
      subst e
      by_cases hl : k < ε.length
      · rw [List.getElem?_set_self hl] at h2; cases h2
      · rw [List.getElem?_eq_none (by simpa using hl)] at h2; cases h2
    rw [List.getElem?_set_ne (Ne.symm hj)] at h1 h3
    rw [List.getElem?_set_ne (Ne.symm hk)] at h2 ⊢
    exact R.dj j k a d1 d2 hjk h1 h2 h3
/-- nobody's slot holds l as its own -/
def Apart (σ : St) (ε : Env) (l : Addr) : Prop := ∀ (i : Nat) (d : D), ε[i]? = some (.ow d) → σ[i]? ≠ some (some (.ref l))
theorem RepE.setO (R : RepE u B G0 G H σ ε) (i : Nat) {d : D} {l : Addr} (hg : G l = none) (hb : B l = none) (ho : Own u G H l d) (ha : Apart σ ε l) : RepE u B G0 G H (σ.set i (some (.ref l))) (ε.set i (.ow d)) := by
  refine ⟨by simp [R.len], R.g0, R.gb, R.gh, R.bh, fun j s hs => ?_, fun j k a d1 d2 hjk h1 h2 h3 => ?_⟩
  · by_cases hj : j = i
    · subst hj
      have hl : j < ε.length := by
        have := List.getElem?_eq_some_iff.mp hs
        simpa using this.1
      rw [List.getElem?_set_self hl] at hs
      cases hs
      exact ⟨some (.ref l), List.getElem?_set_self (by rw [R.len]; exact hl), l, rfl, hg, hb, ho⟩
    · rw [List.getElem?_set_ne (Ne.symm hj)] at hs ⊢
      exact R.sl j s hs
  · by_cases hj : j = i
    · have hk : k ≠ i := fun e => hjk (hj.trans e.symm)
      rw [List.getElem?_set_ne (Ne.symm hk)] at h2 ⊢
      subst hj
      have hl : j < σ.length := by
        have := List.getElem?_eq_some_iff.mp h3
        simpa using this.1
      rw [List.getElem?_set_self hl] at h3
      cases h3
      exact ha k d2 h2
    · rw [List.getElem?_set_ne (Ne.symm hj)] at h1 h3
      by_cases hk : k = i
      · subst hk
        intro h4
        have hl : k < σ.length := by
          have := List.getElem?_eq_some_iff.mp h4
          simpa using this.1
        rw [List.getElem?_set_self hl] at h4
        cases h4
        exact ha j d1 h1 h3
      · rw [List.getElem?_set_ne (Ne.symm hk)] at h2 ⊢
        exact R.dj j k a d1 d2 hjk h1 h2 h3
theorem RepE.setN (R : RepE u B G0 G H σ ε) (i : Nat) (o : Option V) : RepE u B G0 G H (σ.set i o) (ε.set i .no) := by
  refine ⟨by simp [R.len], R.g0, R.gb, R.gh, R.bh, fun j s hs => ?_, fun j k a d1 d2 hjk h1 h2 h3 => ?_⟩
  · by_cases hj : j = i
    · subst hj
      have hl : j < ε.length := by
        have := List.getElem?_eq_some_iff.mp hs
        simpa using this.1
      rw [List.getElem?_set_self hl] at hs
      cases hs
      exact ⟨o, List.getElem?_set_self (by rw [R.len]; exact hl), trivial⟩
    · rw [List.getElem?_set_ne (Ne.symm hj)] at hs ⊢
      exact R.sl j s hs
  · have hj : j ≠ i := fun e => by
      subst e
      by_cases hl : j < ε.length
      · rw [List.getElem?_set_self hl] at h1; cases h1
      · rw [List.getElem?_eq_none (by simpa using hl)] at h1; cases h1
    have hk : k ≠ i := fun e => by
      subst e
      by_cases hl : k < ε.length
      · rw [List.getElem?_set_self hl] at h2; cases h2
      · rw [List.getElem?_eq_none (by simpa using hl)] at h2; cases h2
    rw [List.getElem?_set_ne (Ne.symm hj)] at h1 h3
    rw [List.getElem?_set_ne (Ne.symm hk)] at h2 ⊢
    exact R.dj j k a d1 d2 hjk h1 h2 h3
end
end ML
end
section
set_option Elab.async false
set_option linter.all false
set_option maxRecDepth 100000
set_option maxHeartbeats 2000000
set_option autoImplicit false
namespace ML
open PySem L2

/-- an error: its class by number, its fields -/
structure Xn where
  c : Nat
  fs : List Str
  ds : List D
inductive Out (α : Type) where
  | ok (a : α) (ε : Env) | ex (x : Xn) (ε : Env) | bad
def Out.bnd {α β : Type} (o : Out α) (k : α → Env → Out β) : Out β := match o with
  | .ok a ε => k a ε
  | .ex x ε => .ex x ε
  | .bad => .bad
/-- a pure step -/
def Out.opt {α : Type} (o : Option α) (ε : Env) : Out α := match o with
  | some a => .ok a ε
  | none => .bad
def RepX (u : Uv) (G H : Hp) (x : Xn) (cls : Value) (dd : Option Addr) : Prop :=
  cls = .ref (u.xc x.c) ∧ ((dd = none ∧ x.fs = []) ∨ ∃ d ws, dd = some d ∧ H d = some (.xd (x.fs.zip ws)) ∧ x.fs.length = ws.length ∧ RepL u G x.ds ws)
/-- what is wanted behind: S where it goes on, W where an error comes -/
def Pst {α : Type} (u : Uv) (W : WX) (B G0 : Hp) (σ : St) (G : Hp) (o : Out α) (S : α → Env → Hp → Hp → Prop) : Prop := match o with
  | .ok a ε => ∀ G' H', Ex G G' → RepE u B G0 G' H' σ ε → S a ε G' H'
  | .ex x ε => ∀ c dd G' H', Ex G G' → RepE u B G0 G' H' σ ε → RepX u G' H' x c dd → W c dd σ H'
  | .bad => False
section
variable {α β : Type} {u : Uv} {W : WX} {B G0 G G' H H' : Hp} {σ : St} {ε : Env}
theorem Pst.mono {o : Out α} {S S' : α → Env → Hp → Hp → Prop} (h : Pst u W B G0 σ G o S) (k : ∀ a ε' G' H', Ex G G' → RepE u B G0 G' H' σ ε' → S a ε' G' H' → S' a ε' G' H') : Pst u W B G0 σ G o S' := by
  cases o with
  | ok a ε => exact fun G' H' e R => k a ε G' H' e R (h G' H' e R)
  | ex x ε => exact h
  | bad => exact h
theorem Pst.up {o : Out α} {S : α → Env → Hp → Hp → Prop} (h : Pst u W B G0 σ G o S) (e : Ex G G') : Pst u W B G0 σ G' o S := by
  cases o with
  | ok a ε => exact fun G'' H' e' R => h G'' H' (e.trans e') R
  | ex x ε => exact fun c dd G'' H' e' R => h c dd G'' H' (e.trans e') R
  | bad => exact h
theorem Pst.bnd {o : Out α} {k : α → Env → Out β} {S : β → Env → Hp → Hp → Prop} (h : Pst u W B G0 σ G (o.bnd k) S) : Pst u W B G0 σ G o (fun a ε' G' _ => Pst u W B G0 σ G' (k a ε') S) := by
  cases o with
  | ok a ε => exact fun G' H' e _ => Pst.up (G := G) h e
  | ex x ε => exact h
  | bad => exact h
theorem Pst.ret {a : α} {S : α → Env → Hp → Hp → Prop} (h : Pst u W B G0 σ G (.ok a ε) S) (R : RepE u B G0 G H σ ε) : S a ε G H := h G H (Ex.refl _) R
theorem Pst.ret' {a : α} {S : α → Env → Hp → Hp → Prop} (h : Pst u W B G0 σ G (.ok a ε) S) (e : Ex G G') (R : RepE u B G0 G' H' σ ε) : S a ε G' H' := h G' H' e R
theorem Pst.opt {o : Option α} {S : α → Env → Hp → Hp → Prop} (h : Pst u W B G0 σ G (Out.opt o ε) S) : ∃ a, o = some a ∧ Pst u W B G0 σ G (.ok a ε) S := by
  cases o with
  | none => exact h.elim
  | some a => exact ⟨a, rfl, h⟩
end

/-! ### the judgements: a reading computes a function -/
def SE (u : Uv) (Q : VK) : D → Env → Hp → Hp → Prop := fun d _ G H => ∀ v, Rep u G d v → Q v H
def SL (u : Uv) (Q : List V → Hp → Prop) : List D → Env → Hp → Hp → Prop := fun ds _ G H => ∀ vs, RepL u G ds vs → Q vs H
def ST (Q : Bool → Hp → Prop) : Bool → Env → Hp → Hp → Prop := fun b _ _ H => Q b H
/-- a value with its mode -/
def SlV (u : Uv) (B G H : Hp) (σ : St) (ε : Env) (v : V) : Sl → Prop
  | .no => False
  | .fz d => Rep u G d v
  | .ow d => ∃ l, v = .ref l ∧ G l = none ∧ B l = none ∧ Own u G H l d ∧ Apart σ ε l
def SM (u : Uv) (B : Hp) (σ : St) (Q : VK) : Sl → Env → Hp → Hp → Prop := fun s ε G H => ∀ v, SlV u B G H σ ε v s → Q v H
def RzE (u : Uv) (W : WX) (te : TE) (f : Env → Out D) : Prop := ∀ B G0 G H σ ε Q, RepE u B G0 G H σ ε → Pst u W B G0 σ G (f ε) (SE u Q) → te σ H Q
def RzA (u : Uv) (W : WX) (ta : TA) (f : Env → Out (List D)) : Prop := ∀ B G0 G H σ ε Q, RepE u B G0 G H σ ε → Pst u W B G0 σ G (f ε) (SL u Q) → ta σ H Q
def RzT (u : Uv) (W : WX) (tt : TT) (f : Env → Out Bool) : Prop := ∀ B G0 G H σ ε Q, RepE u B G0 G H σ ε → Pst u W B G0 σ G (f ε) (ST Q) → tt σ H Q
def RzM (u : Uv) (W : WX) (te : TE) (f : Env → Out Sl) : Prop := ∀ B G0 G H σ ε Q, RepE u B G0 G H σ ε → Pst u W B G0 σ G (f ε) (SM u B σ Q) → te σ H Q
/-- operators, calls of built-ins on values: pure -/
def RzR (u : Uv) (r : R2) (f : D → D → Option D) : Prop := ∀ x y d e z G H Q, Rep u G d x → Rep u G e y → f d e = some z → Ex G H →
  (∀ v G' H', Ex G G' → Ex H H' → Ex G' H' → Nw H G G' → Rep u G' z v → Q v H') → r x y H Q
def RzC (u : Uv) (r : List V → Hp → VK → Prop) (f : List D → Option D) : Prop := ∀ xs ds z G H Q, RepL u G ds xs → f ds = some z → Ex G H →
  (∀ v G' H', Ex G G' → Ex H H' → Ex G' H' → Nw H G G' → Rep u G' z v → Q v H') → r xs H Q

theorem set_same {α : Type} : ∀ {l : List α} {i : Nat} {x : α}, l[i]? = some x → l.set i x = l
  | [], _, _, h => by simp at h
  | a :: l, 0, x, h => by simp at h; subst h; rfl
  | a :: l, i + 1, x, h => by simp only [List.set_cons_succ]; rw [set_same (by simpa using h)]

/-! ### names and constants -/
def varF (i : Nat) : Env → Out D := fun ε => match ε[i]? with
  | some (.fz d) => .ok d ε
  | some (.ow d) => .ok d (ε.set i (.fz d))
  | _ => .bad
def peekF (i : Nat) : Env → Out D := fun ε => match ε[i]? with
  | some (.fz d) => .ok d ε
  | some (.ow d) => .ok d ε
  | _ => .bad
def cF (d : D) : Env → Out D := fun ε => .ok d ε
section
variable {u : Uv} {W : WX}
theorem Own.rep {G H : Hp} {l : Addr} {d : D} (h : Own u G H l d) : ∃ o, H l = some o ∧ ∀ G', Ex G G' → G' l = some o → Rep u G' d (.ref l) := by
  cases d with
  | lst ds => obtain ⟨vs, a, b⟩ := h; exact ⟨_, a, fun G' e q => by simp only [Rep]; exact ⟨l, vs, rfl, q, RepL.mono e _ b⟩⟩
  | dk ks ds => obtain ⟨vs, a, n, b⟩ := h; exact ⟨_, a, fun G' e q => by simp only [Rep]; exact ⟨l, vs, rfl, q, n, RepL.mono e _ b⟩⟩
  | dt ks ds => obtain ⟨vs, a, n, b⟩ := h; exact ⟨_, a, fun G' e q => by simp only [Rep]; exact ⟨l, vs, rfl, q, n, RepL.mono e _ b⟩⟩
  | obj c fs ds => obtain ⟨dx, vs, a, n, b⟩ := h; exact ⟨_, a, fun G' e q => by simp only [Rep]; exact ⟨l, dx, vs, rfl, q, n, RepL.mono e _ b⟩⟩
  | _ => exact h.elim
/-- G with l as H has it -/
theorem know {G H : Hp} {l : Addr} {o : HO} (e : Ex G H) (hg : G l = none) (h : H l = some o) : Ex G (upd G l o) ∧ Ex (upd G l o) H := by
  refine ⟨Ex.upd hg, fun a x q => ?_⟩
  by_cases ha : a = l
  · subst ha; rw [upd_same] at q; cases q; exact h
  · rw [upd_ne ha] at q; exact e a x q
/-- one's own thing is laid open: from now on it stays -/
theorem RepE.frz {B G0 G H : Hp} {σ : St} {ε : Env} {l : Addr} {o : HO} (R : RepE u B G0 G H σ ε) (hg : G l = none) (hb : B l = none) (h : H l = some o) (ha : Apart σ ε l) : RepE u B G0 (upd G l o) H σ ε := by
  obtain ⟨e1, e2⟩ := know R.gh hg h
  refine ⟨R.len, R.g0.trans e1, fun a x q => ?_, e2, R.bh, fun i s hs => ?_, R.dj⟩
  · rw [upd_ne (ne_of_none q hb)]; exact R.gb a x q
  · obtain ⟨v, h1, h2⟩ := R.sl i s hs
    refine ⟨v, h1, ?_⟩
    cases s with
    | no => trivial
    | fz d => obtain ⟨w, a, b⟩ := h2; exact ⟨w, a, b.mono e1⟩
    | ow d =>
      obtain ⟨m, a, b, c, w⟩ := h2
      have hm : m ≠ l := fun q => by subst q; exact ha i d hs (by rw [h1, a])
      exact ⟨m, a, by rw [upd_ne hm]; exact b, c, w.mono e1 fun _ z => z⟩
theorem rz_var (i : Nat) : RzE u W (tVar i) (varF i) := fun B G0 G H σ ε Q R h => by
  unfold varF at h
  cases e : ε[i]? with
  | none => rw [e] at h; exact h.elim
  | some s =>
    obtain ⟨o, h1, h2⟩ := R.sl i s e
    cases s with
    | no => rw [e] at h; exact h.elim
    | fz d =>
      rw [e] at h
      obtain ⟨v, rfl, r⟩ := h2
      exact ⟨v, h1, h.ret R v r⟩
    | ow d =>
      rw [e] at h
      obtain ⟨l, rfl, hg, hb, w⟩ := h2
      obtain ⟨o, ho, hr⟩ := Own.rep w
      have il : i < ε.length := (List.getElem?_eq_some_iff.mp e).1
      have R' : RepE u B G0 G H σ (ε.set i .no) := by
        have q := R.setN i (some (.ref l))
        rwa [set_same h1] at q
      have ap : Apart σ (ε.set i .no) l := fun j d' hj hs => by
        by_cases hij : j = i
        · subst hij; rw [List.getElem?_set_self il] at hj; cases hj
        · rw [List.getElem?_set_ne (Ne.symm hij)] at hj
          exact R.dj i j l d d' (Ne.symm hij) e hj h1 hs
      have R2 := R'.frz hg hb ho ap
      have e1 := (know R.gh hg ho).1
      have rep : Rep u (upd G l o) d (.ref l) := hr _ e1 upd_same
      have R3 := R2.setF i rep
      rw [set_same h1, List.set_set] at R3
      exact ⟨.ref l, h1, h.ret' e1 R3 _ rep⟩

theorem rz_c {d : D} {v : V} (h : ∀ G, Rep u G d v) : RzE u W (tC v) (cF d) := fun B G0 G H σ ε Q R q => q.ret R v (h G)
theorem rz_int {i : Int} : RzE u W (tC (.int i)) (cF (.int i)) := rz_c fun _ => by simp only [Rep]
theorem rz_bl {i : Bool} : RzE u W (tC (.bl i)) (cF (.bl i)) := rz_c fun _ => by simp only [Rep]
theorem rz_str {i : Str} : RzE u W (tC (.str i)) (cF (.str i)) := rz_c fun _ => by simp only [Rep]
theorem rz_non : RzE u W (tC .non) (cF .non) := rz_c fun _ => by simp only [Rep]

/-! ### operators -/
def op2F (fa fb : Env → Out D) (f : D → D → Option D) : Env → Out D := fun ε => (fa ε).bnd fun x ε1 => (fb ε1).bnd fun y ε2 => Out.opt (f x y) ε2
theorem rz_op {ta tb : TE} {fa fb : Env → Out D} {r : R2} {f : D → D → Option D} (ha : RzE u W ta fa) (hb : RzE u W tb fb) (hr : RzR u r f) : RzE u W (tOp r ta tb) (op2F fa fb f) := fun B G0 G H σ ε Q R h =>
  ha _ _ _ _ _ _ _ R (h.bnd.mono fun x ε1 G1 H1 e1 R1 h1 v rv => hb _ _ _ _ _ _ _ R1 (h1.bnd.mono fun y ε2 G2 H2 e2 R2 h2 w rw => by
    obtain ⟨z, hz, h3⟩ := h2.opt
    exact hr v w x y z G2 H2 Q (rv.mono e2) rw hz R2.gh fun p G' H' eg eh egh gb rp => h3.ret' eg (R2.grow eg gb eh egh) p rp))
def op1F (fa : Env → Out D) (f : D → Option D) : Env → Out D := fun ε => (fa ε).bnd fun x ε1 => Out.opt (f x) ε1
def RzU (u : Uv) (r : V → Hp → VK → Prop) (f : D → Option D) : Prop := ∀ x d z G H Q, Rep u G d x → f d = some z → Ex G H →
  (∀ v G' H', Ex G G' → Ex H H' → Ex G' H' → Nw H G G' → Rep u G' z v → Q v H') → r x H Q
theorem rz_un {ta : TE} {fa : Env → Out D} {r : V → Hp → VK → Prop} {f : D → Option D} (ha : RzE u W ta fa) (hr : RzU u r f) : RzE u W (tUn r ta) (op1F fa f) := fun B G0 G H σ ε Q R h =>
  ha _ _ _ _ _ _ _ R (h.bnd.mono fun x ε1 G1 H1 e1 R1 h1 v rv => by
    obtain ⟨z, hz, h3⟩ := h1.opt
    exact hr v x z G1 H1 Q rv hz R1.gh fun p G' H' eg eh egh gb rp => h3.ret' eg (R1.grow eg gb eh egh) p rp)
/-- arguments -/
def nilF : Env → Out (List D) := fun ε => .ok [] ε
def consF (fa : Env → Out D) (fr : Env → Out (List D)) : Env → Out (List D) := fun ε => (fa ε).bnd fun x ε1 => (fr ε1).bnd fun xs ε2 => .ok (x :: xs) ε2
theorem rz_nil : RzA u W tNil nilF := fun B G0 G H σ ε Q R h => h.ret R [] (by simp only [RepL])
theorem rz_cons {ta : TE} {tr : TA} {fa : Env → Out D} {fr : Env → Out (List D)} (ha : RzE u W ta fa) (hr : RzA u W tr fr) : RzA u W (tCons ta tr) (consF fa fr) := fun B G0 G H σ ε Q R h =>
  ha _ _ _ _ _ _ _ R (h.bnd.mono fun x ε1 G1 H1 e1 R1 h1 v rv => hr _ _ _ _ _ _ _ R1 (h1.bnd.mono fun xs ε2 G2 H2 e2 R2 h2 vs rvs =>
    h2.ret R2 (v :: vs) (by simp only [RepL]; exact ⟨v, vs, rfl, rv.mono e2, rvs⟩)))
/-- displays -/
def tupF (fa : Env → Out (List D)) : Env → Out D := fun ε => (fa ε).bnd fun xs ε1 => if xs.length ≤ 100000 then .ok (.tup xs) ε1 else .bad
theorem sz_of {n : Nat} (h : n ≤ 100000) : n ≤ sizeLine := Nat.le_trans h (by decide)
theorem sz_lt {n : Nat} (h : n < 100000) : n < sizeLine := Nat.lt_of_lt_of_le h (by decide)
theorem rz_tup {ta : TA} {fa : Env → Out (List D)} (ha : RzA u W ta fa) : RzE u W (tTup ta) (tupF fa) := fun B G0 G H σ ε Q R h =>
  ha _ _ _ _ _ _ _ R (h.bnd.mono fun xs ε1 G1 H1 e1 R1 h1 vs rvs => by
    by_cases hz : xs.length ≤ 100000
    · simp only [if_pos hz] at h1
      refine ⟨sz_of (by rw [← rvs.length]; exact hz), fun p hp => ?_⟩
      exact h1.ret' (R1.exn hp (.tup vs)) (R1.new hp (.tup vs)) _ (by simp only [Rep]; exact ⟨p, vs, rfl, upd_same, RepL.mono (R1.exn hp _) _ rvs⟩)
    · simp only [if_neg hz] at h1; exact h1.elim)
def lstM (fa : Env → Out (List D)) : Env → Out Sl := fun ε => (fa ε).bnd fun xs ε1 => if xs.length ≤ 100000 then .ok (.ow (.lst xs)) ε1 else .bad
theorem apart_new {B G0 G H : Hp} {σ : St} {ε : Env} (R : RepE u B G0 G H σ ε) {p : Addr} (hp : H p = none) : Apart σ ε p := fun i d h q => by
  obtain ⟨o, h1, h2⟩ := R.sl i _ h
  obtain ⟨l, rfl, _, _, w⟩ := h2
  rw [h1] at q
  cases q
  obtain ⟨ob, ho⟩ := Own.has w
  rw [hp] at ho; cases ho
theorem rzm_lst {ta : TA} {fa : Env → Out (List D)} (ha : RzA u W ta fa) : RzM u W (tLst ta) (lstM fa) := fun B G0 G H σ ε Q R h =>
  ha _ _ _ _ _ _ _ R (h.bnd.mono fun xs ε1 G1 H1 e1 R1 h1 vs rvs => by
    by_cases hz : xs.length ≤ 100000
    · simp only [if_pos hz] at h1
      refine ⟨sz_of (by rw [← rvs.length]; exact hz), fun p hp => ?_⟩
      exact h1.ret' (Ex.refl _) (R1.lay hp (.lst vs)) _ ⟨p, rfl, (R1.free hp).1, (R1.free hp).2.1, ⟨vs, upd_same, rvs⟩, apart_new R1 hp⟩
    · simp only [if_neg hz] at h1; exact h1.elim)
/-- a value with its mode, laid open -/
def Sl.get : Sl → Option D
  | .no => none
  | .fz d => some d
  | .ow d => some d
def frzF (f : Env → Out Sl) : Env → Out D := fun ε => (f ε).bnd fun s ε1 => Out.opt s.get ε1
theorem rz_frz {te : TE} {f : Env → Out Sl} (h : RzM u W te f) : RzE u W te (frzF f) := fun B G0 G H σ ε Q R q =>
  h _ _ _ _ _ _ _ R (q.bnd.mono fun s ε1 G1 H1 e1 R1 h1 v sv => by
    cases s with
    | no => exact sv.elim
    | fz d => exact Pst.ret (a := d) h1 R1 v sv
    | ow d =>
      obtain ⟨l, rfl, hg, hb, w, ap⟩ := sv
      obtain ⟨o, ho, hr⟩ := Own.rep w
      have e2 := (know R1.gh hg ho).1
      exact Pst.ret' (a := d) h1 e2 (R1.frz hg hb ho ap) _ (hr _ e2 upd_same))
def fzM (f : Env → Out D) : Env → Out Sl := fun ε => (f ε).bnd fun d ε1 => .ok (.fz d) ε1
theorem rzm_fz {te : TE} {f : Env → Out D} (h : RzE u W te f) : RzM u W te (fzM f) := fun B G0 G H σ ε Q R q =>
  h _ _ _ _ _ _ _ R (q.bnd.mono fun d ε1 G1 H1 e1 R1 h1 v rv => Pst.ret (a := Sl.fz d) h1 R1 v rv)
/-- built-ins called -/
def cbF (fa : Env → Out (List D)) (f : List D → Option D) : Env → Out D := fun ε => (fa ε).bnd fun xs ε1 => Out.opt (f xs) ε1
theorem rz_cb {ta : TA} {fa : Env → Out (List D)} {r : List V → Hp → VK → Prop} {f : List D → Option D} (ha : RzA u W ta fa) (hr : RzC u r f) : RzE u W (tCB r ta) (cbF fa f) := fun B G0 G H σ ε Q R h =>
  ha _ _ _ _ _ _ _ R (h.bnd.mono fun xs ε1 G1 H1 e1 R1 h1 vs rvs => by
    obtain ⟨z, hz, h3⟩ := h1.opt
    exact hr vs xs z G1 H1 Q rvs hz R1.gh fun p G' H' eg eh egh gb rp => h3.ret' eg (R1.grow eg gb eh egh) p rp)

/-! ### tests, and or not -/
def asB : D → Option Bool
  | .bl b => some b
  | _ => none
theorem asB_rep {d : D} {b : Bool} {G : Hp} {v : V} (h : asB d = some b) (r : Rep u G d v) : v = .bl b := by
  cases d with
  | bl c => simp only [asB, Option.some.injEq] at h; subst h; simpa only [Rep] using r
  | _ => simp [asB] at h
def testF (f : Env → Out D) : Env → Out Bool := fun ε => (f ε).bnd fun d ε1 => Out.opt (asB d) ε1
theorem rt_test {te : TE} {f : Env → Out D} (h : RzE u W te f) : RzT u W (tTest te) (testF f) := fun B G0 G H σ ε Q R q =>
  h _ _ _ _ _ _ _ R (q.bnd.mono fun d ε1 G1 H1 e1 R1 h1 v rv => by
    obtain ⟨b, hb, h2⟩ := h1.opt
    exact ⟨b, asB_rep hb rv, h2.ret R1⟩)
theorem rt_B {te : TE} {f : Env → Out D} (h : RzE u W te f) : RzT u W (tB te) (testF f) := rt_test h
def andT (f g : Env → Out Bool) : Env → Out Bool := fun ε => (f ε).bnd fun b ε1 => if b = true then g ε1 else .ok false ε1
def orT (f g : Env → Out Bool) : Env → Out Bool := fun ε => (f ε).bnd fun b ε1 => if b = true then .ok true ε1 else g ε1
def notT (f : Env → Out Bool) : Env → Out Bool := fun ε => (f ε).bnd fun b ε1 => .ok (!b) ε1
theorem rt_and {t t' : TT} {f g : Env → Out Bool} (h : RzT u W t f) (h' : RzT u W t' g) : RzT u W (tAnd t t') (andT f g) := fun B G0 G H σ ε Q R q =>
  h _ _ _ _ _ _ _ R (q.bnd.mono fun b ε1 G1 H1 e1 R1 h1 => by
    cases b with
    | true => exact h' _ _ _ _ _ _ _ R1 h1
    | false => exact Pst.ret (W := W) (S := ST Q) (a := false) h1 R1)
theorem rt_or {t t' : TT} {f g : Env → Out Bool} (h : RzT u W t f) (h' : RzT u W t' g) : RzT u W (tOr t t') (orT f g) := fun B G0 G H σ ε Q R q =>
  h _ _ _ _ _ _ _ R (q.bnd.mono fun b ε1 G1 H1 e1 R1 h1 => by
    cases b with
    | true => exact Pst.ret (W := W) (S := ST Q) (a := true) h1 R1
    | false => exact h' _ _ _ _ _ _ _ R1 h1)
theorem rt_not {t : TT} {f : Env → Out Bool} (h : RzT u W t f) : RzT u W (tNot t) (notT f) := fun B G0 G H σ ε Q R q =>
  h _ _ _ _ _ _ _ R (q.bnd.mono fun b ε1 G1 H1 e1 R1 h1 => Pst.ret (a := !b) h1 R1)
def andV (f g : Env → Out D) : Env → Out D := fun ε => (f ε).bnd fun d ε1 => match asB d with
  | some true => g ε1
  | some false => .ok (.bl false) ε1
  | none => .bad
def orV (f g : Env → Out D) : Env → Out D := fun ε => (f ε).bnd fun d ε1 => match asB d with
  | some true => .ok (.bl true) ε1
  | some false => g ε1
  | none => .bad
def notV (f : Env → Out D) : Env → Out D := fun ε => (f ε).bnd fun d ε1 => Out.opt ((asB d).map fun b => .bl (!b)) ε1
theorem rz_and {t t' : TE} {f g : Env → Out D} (h : RzE u W t f) (h' : RzE u W t' g) : RzE u W (tAndV t t') (andV f g) := fun B G0 G H σ ε Q R q =>
  h _ _ _ _ _ _ _ R (q.bnd.mono fun d ε1 G1 H1 e1 R1 h1 v rv => by
    cases hb : asB d with
    | none => simp only [hb] at h1; exact h1.elim
    | some b =>
      refine ⟨b, asB_rep hb rv, ?_⟩
      cases b with
      | true => simp only [hb] at h1; exact h' _ _ _ _ _ _ _ R1 h1
      | false => simp only [hb] at h1; exact h1.ret R1 _ (by simp only [Rep]))
theorem rz_or {t t' : TE} {f g : Env → Out D} (h : RzE u W t f) (h' : RzE u W t' g) : RzE u W (tOrV t t') (orV f g) := fun B G0 G H σ ε Q R q =>
  h _ _ _ _ _ _ _ R (q.bnd.mono fun d ε1 G1 H1 e1 R1 h1 v rv => by
    cases hb : asB d with
    | none => simp only [hb] at h1; exact h1.elim
    | some b =>
      refine ⟨b, asB_rep hb rv, ?_⟩
      cases b with
      | true => simp only [hb] at h1; exact h1.ret R1 _ (by simp only [Rep])
      | false => simp only [hb] at h1; exact h' _ _ _ _ _ _ _ R1 h1)
theorem rz_not {t : TE} {f : Env → Out D} (h : RzE u W t f) : RzE u W (tNotV t) (notV f) := fun B G0 G H σ ε Q R q =>
  h _ _ _ _ _ _ _ R (q.bnd.mono fun d ε1 G1 H1 e1 R1 h1 v rv => by
    obtain ⟨z, hz, h2⟩ := h1.opt
    cases hb : asB d with
    | none => rw [hb] at hz; cases hz
    | some b =>
      rw [hb] at hz; cases hz
      exact ⟨b, asB_rep hb rv, h2.ret R1 _ (by simp only [Rep])⟩)
def ifE (c : Env → Out Bool) (f g : Env → Out D) : Env → Out D := fun ε => (c ε).bnd fun b ε1 => if b = true then f ε1 else g ε1
theorem rz_if {t : TT} {ta tb : TE} {c : Env → Out Bool} {f g : Env → Out D} (h : RzT u W t c) (ha : RzE u W ta f) (hb : RzE u W tb g) : RzE u W (tIf t ta tb) (ifE c f g) := fun B G0 G H σ ε Q R q =>
  h _ _ _ _ _ _ _ R (q.bnd.mono fun b ε1 G1 H1 e1 R1 h1 => by
    cases b with
    | true => exact ha _ _ _ _ _ _ _ R1 h1
    | false => exact hb _ _ _ _ _ _ _ R1 h1)
/-- a < b < c -/
def chainF (fa fb fc : Env → Out D) (f g : D → D → Option D) : Env → Out D := fun ε => (fa ε).bnd fun x ε1 => (fb ε1).bnd fun y ε2 => match (f x y).bind asB with
  | some true => (fc ε2).bnd fun z ε3 => Out.opt (g y z) ε3
  | some false => .ok (.bl false) ε2
  | none => .bad
theorem rz_chain {ta tb tc : TE} {fa fb fc : Env → Out D} {r r' : R2} {f g : D → D → Option D} (ha : RzE u W ta fa) (hb : RzE u W tb fb) (hc : RzE u W tc fc) (hr : RzR u r f) (hr' : RzR u r' g) :
    RzE u W (tChain r r' ta tb tc) (chainF fa fb fc f g) := fun B G0 G H σ ε Q R h =>
  ha _ _ _ _ _ _ _ R (h.bnd.mono fun x ε1 G1 H1 e1 R1 h1 v rv => hb _ _ _ _ _ _ _ R1 (h1.bnd.mono fun y ε2 G2 H2 e2 R2 h2 w rw => by
    cases hf : f x y with
    | none => simp only [hf, Option.bind_none] at h2; exact h2.elim
    | some d =>
      simp only [hf, Option.bind_some] at h2
      cases hb : asB d with
      | none => simp only [hb] at h2; exact h2.elim
      | some b =>
        refine hr v w x y d G2 H2 _ (rv.mono e2) rw hf R2.gh fun p G' H' eg eh egh gb rp => ⟨b, asB_rep hb rp, ?_⟩
        have R3 := R2.grow eg gb eh egh
        cases b with
        | true =>
          simp only [hb] at h2
          exact hc _ _ _ _ _ _ _ R3 ((h2.up eg).bnd.mono fun z ε3 G3 H3 e3 R4 h3 q rq => by
            obtain ⟨zz, hz, h4⟩ := h3.opt
            exact hr' w q y z zz G3 H3 Q ((rw.mono eg).mono e3) rq hz R4.gh fun p' G'' H'' eg' eh' egh' gb' rp' => h4.ret' eg' (R4.grow eg' gb' eh' egh') p' rp')
        | false =>
          simp only [hb] at h2
          exact h2.ret' eg R3 _ (by simp only [Rep])))
end
end ML
end
section
set_option Elab.async false
set_option linter.all false
set_option maxRecDepth 100000
set_option maxHeartbeats 2000000
set_option autoImplicit false
namespace ML
open PySem L2

/-! ### statements -/
inductive SO where
  | nx (ε : Env) | rt (d : D) (ε : Env) | bk (ε : Env) | ct (ε : Env) | ex (x : Xn) (ε : Env) | bad
def Out.toS {α : Type} (o : Out α) (k : α → Env → SO) : SO := match o with
  | .ok a ε => k a ε
  | .ex x ε => .ex x ε
  | .bad => .bad
/-- these slots are left as they are -/
def Kp (b : List Nat) (σ σ' : L2.St) : Prop := ∀ k, k ∈ b → σ'[k]? = σ[k]?
theorem Kp.refl {b : List Nat} {σ : L2.St} : Kp b σ σ := fun _ _ => rfl
theorem Kp.trans {b : List Nat} {σ σ1 σ2 : L2.St} (h : Kp b σ σ1) (h' : Kp b σ1 σ2) : Kp b σ σ2 := fun k e => (h' k e).trans (h k e)
def PstS (u : Uv) (W : WX) (b : List Nat) (τ : L2.St) (B G0 G : Hp) (o : SO) (N : Ends) : Prop := match o with
  | .nx ε => ∀ σ' G' H', Ex G G' → RepE u B G0 G' H' σ' ε → Kp b τ σ' → N.nx σ' H'
  | .rt d ε => ∀ σ' v G' H', Ex G G' → RepE u B G0 G' H' σ' ε → Kp b τ σ' → Rep u G' d v → N.rt v H'
  | .bk ε => ∀ σ' G' H', Ex G G' → RepE u B G0 G' H' σ' ε → Kp b τ σ' → N.bk σ' H'
  | .ct ε => ∀ σ' G' H', Ex G G' → RepE u B G0 G' H' σ' ε → Kp b τ σ' → N.ct σ' H'
  | .ex x ε => ∀ c dd σ' G' H', Ex G G' → RepE u B G0 G' H' σ' ε → RepX u G' H' x c dd → W c dd σ' H'
  | .bad => False
def RzS (u : Uv) (W : WX) (b : List Nat) (ts : TS) (F : Env → SO) : Prop := ∀ B G0 G H σ ε N, RepE u B G0 G H σ ε → PstS u W b σ B G0 G (F ε) N → ts N σ H
section
variable {α β : Type} {u : Uv} {W : WX} {b : List Nat} {B G0 G G' H H' : Hp} {σ τ τ' : L2.St} {ε : Env}
theorem PstS.up {o : SO} {N : Ends} (h : PstS u W b τ B G0 G o N) (e : Ex G G') : PstS u W b τ B G0 G' o N := by
  cases o with
  | nx ε => exact fun σ G'' H' e' R => h σ G'' H' (e.trans e') R
  | rt d ε => exact fun σ v G'' H' e' R => h σ v G'' H' (e.trans e') R
  | bk ε => exact fun σ G'' H' e' R => h σ G'' H' (e.trans e') R
  | ct ε => exact fun σ G'' H' e' R => h σ G'' H' (e.trans e') R
  | ex x ε => exact fun c dd σ G'' H' e' R => h c dd σ G'' H' (e.trans e') R
  | bad => exact h
theorem PstS.on {o : SO} {N : Ends} (h : PstS u W b τ B G0 G o N) (k : Kp b τ τ') : PstS u W b τ' B G0 G o N := by
  cases o with
  | nx ε => exact fun σ G'' H' e' R q => h σ G'' H' e' R (k.trans q)
  | rt d ε => exact fun σ v G'' H' e' R q => h σ v G'' H' e' R (k.trans q)
  | bk ε => exact fun σ G'' H' e' R q => h σ G'' H' e' R (k.trans q)
  | ct ε => exact fun σ G'' H' e' R q => h σ G'' H' e' R (k.trans q)
  | ex x ε => exact h
  | bad => exact h
theorem PstS.bnd {o : Out α} {k : α → Env → SO} {N : Ends} (h : PstS u W b τ B G0 G (o.toS k) N) : Pst u W B G0 σ G o (fun a ε' G' _ => PstS u W b τ B G0 G' (k a ε') N) := by
  cases o with
  | ok a ε => exact fun G' H' e _ => PstS.up (G := G) h e
  | ex x ε => exact fun c dd G' H' e R rx => h c dd σ G' H' e R rx
  | bad => exact h
theorem PstS.next {N : Ends} (h : PstS u W b τ B G0 G (.nx ε) N) (R : RepE u B G0 G H σ ε) (k : Kp b τ σ) : N.nx σ H := h σ G H (Ex.refl _) R k
def nxF : Env → SO := fun ε => .nx ε
theorem rs_next : RzS u W b tNext nxF := fun B G0 G H σ ε N R h => h.next R .refl
def seqF (F F' : Env → SO) : Env → SO := fun ε => match F ε with
  | .nx ε' => F' ε'
  | o => o
theorem rs_seq {t t' : TS} {F F' : Env → SO} (h : RzS u W b t F) (h' : RzS u W b t' F') : RzS u W b (tSeq t t') (seqF F F') := fun B G0 G H σ ε N R q => by
  refine h _ _ _ _ _ _ _ R ?_
  unfold seqF at q
  cases e : F ε with
  | nx ε' => rw [e] at q; exact fun σ' G' H' e' R' k => h' _ _ _ _ _ _ _ R' ((PstS.up (G := G) q e').on k)
  | rt d ε' => rw [e] at q; exact q
  | bk ε' => rw [e] at q; exact q
  | ct ε' => rw [e] at q; exact q
  | ex x ε' => rw [e] at q; exact q
  | bad => rw [e] at q; exact q
def ifS (c : Env → Out Bool) (F F' : Env → SO) : Env → SO := fun ε => (c ε).toS fun b ε1 => if b = true then F ε1 else F' ε1
theorem rs_if {t : TT} {ta tb : TS} {c : Env → Out Bool} {F F' : Env → SO} (h : RzT u W t c) (ha : RzS u W b ta F) (hb : RzS u W b tb F') : RzS u W b (tIfS t ta tb) (ifS c F F') := fun B G0 G H σ ε N R q =>
  h _ _ _ _ _ _ _ R (q.bnd.mono fun b ε1 G1 H1 e1 R1 h1 => by
    cases b with
    | true => exact ha _ _ _ _ _ _ _ R1 h1
    | false => exact hb _ _ _ _ _ _ _ R1 h1)
def retF (f : Env → Out D) : Env → SO := fun ε => (f ε).toS fun d ε1 => .rt d ε1
theorem rs_ret {te : TE} {f : Env → Out D} (h : RzE u W te f) : RzS u W b (tRet te) (retF f) := fun B G0 G H σ ε N R q =>
  h _ _ _ _ _ _ _ R (q.bnd.mono fun d ε1 G1 H1 e1 R1 h1 v rv => PstS.up (G := G1) h1 (Ex.refl _) σ v G1 H1 (Ex.refl _) R1 .refl rv)
def retN : Env → SO := fun ε => .rt .non ε
theorem rs_retN : RzS u W b tRetN retN := fun B G0 G H σ ε N R q => q σ .non G H (Ex.refl _) R .refl (by simp only [Rep])
def dropF (f : Env → Out D) : Env → SO := fun ε => (f ε).toS fun _ ε1 => .nx ε1
theorem rs_drop {te : TE} {f : Env → Out D} (h : RzE u W te f) : RzS u W b (tDrop te) (dropF f) := fun B G0 G H σ ε N R q =>
  h _ _ _ _ _ _ _ R (q.bnd.mono fun d ε1 G1 H1 e1 R1 h1 v rv => h1.next R1 .refl)
def bkF : Env → SO := fun ε => .bk ε
def ctF : Env → SO := fun ε => .ct ε
theorem rs_break : RzS u W b tBreak bkF := fun B G0 G H σ ε N R q => q σ G H (Ex.refl _) R .refl
theorem rs_cont : RzS u W b tCont ctF := fun B G0 G H σ ε N R q => q σ G H (Ex.refl _) R .refl
def neverF : Env → SO := fun _ => .bad
theorem rs_never : RzS u W b tNever neverF := fun B G0 G H σ ε N R q => q.elim

/-! ### targets -/
def Only (js : List Nat) (σ σ' : L2.St) : Prop := σ'.length = σ.length ∧ ∀ i, i ∉ js → σ'[i]? = σ[i]?
theorem Only.kp {js : List Nat} {σ σ' : L2.St} {b : List Nat} (o : Only js σ σ') (h : ∀ k, k ∈ b → k ∉ js) : Kp b σ σ' := fun k e => o.2 k (h k e)
def WG (u : Uv) (js : List Nat) (B G0 G H : Hp) (σ : L2.St) (Q : L2.St → Hp → Prop) : Option Env → Prop
  | some ε' => ∀ σ', RepE u B G0 G H σ' ε' → Only js σ σ' → Q σ' H
  | none => False
def RzG (u : Uv) (js : List Nat) (g : TG) (gf : D → Env → Option Env) : Prop := ∀ B G0 G H σ ε d v Q, RepE u B G0 G H σ ε → Rep u G d v → WG u js B G0 G H σ Q (gf d ε) → g v σ H Q
def RzGs (u : Uv) (js : List Nat) (g : TGs) (gf : List D → Env → Option Env) : Prop := ∀ B G0 G H σ ε ds vs Q, RepE u B G0 G H σ ε → RepL u G ds vs → WG u js B G0 G H σ Q (gf ds ε) → g vs σ H Q
def gnF (i : Nat) : D → Env → Option Env := fun d ε => some (ε.set i (.fz d))
theorem only_set {σ : L2.St} {i : Nat} {o : Option V} : Only [i] σ (σ.set i o) := ⟨by simp, fun j hj => by
  have : j ≠ i := fun e => hj (by simp [e])
  rw [List.getElem?_set_ne (Ne.symm this)]⟩
theorem rg_name (i : Nat) : RzG u [i] (gName i) (gnF i) := fun B G0 G H σ ε d v Q R r h => h _ (R.setF i r) only_set
def gnilF : List D → Env → Option Env
  | [], ε => some ε
  | _, _ => none
def gconsF (gf : D → Env → Option Env) (gs : List D → Env → Option Env) : List D → Env → Option Env
  | d :: ds, ε => (gf d ε).bind fun ε1 => gs ds ε1
  | [], _ => none
theorem rgs_nil : RzGs u [] gNil gnilF := fun B G0 G H σ ε ds vs Q R r h => by
  cases ds with
  | nil => simp only [RepL] at r; exact ⟨r, h _ R ⟨rfl, fun _ _ => rfl⟩⟩
  | cons d ds => exact h.elim
theorem rgs_cons {js ks : List Nat} {g : TG} {gs : TGs} {gf : D → Env → Option Env} {gfs : List D → Env → Option Env} (h1 : RzG u js g gf) (h2 : RzGs u ks gs gfs) : RzGs u (js ++ ks) (gCons g gs) (gconsF gf gfs) := fun B G0 G H σ ε ds vs Q R r h => by
  cases ds with
  | nil => exact h.elim
  | cons d ds =>
    simp only [RepL] at r
    obtain ⟨v, rr, rfl, r1, r2⟩ := r
    refine ⟨v, rr, rfl, h1 _ _ _ _ _ _ _ _ _ R r1 ?_⟩
    unfold gconsF at h
    cases e : gf d ε with
    | none => simp only [e, Option.bind_none] at h; exact h.elim
    | some ε1 =>
      simp only [e, Option.bind_some] at h
      intro σ1 R1 o1
      refine h2 _ _ _ _ _ _ _ _ _ R1 r2 ?_
      cases e2 : gfs ds ε1 with
      | none => rw [e2] at h; exact h.elim
      | some ε2 =>
        rw [e2] at h
        exact fun σ2 R2 o2 => h σ2 R2 ⟨o2.1.trans o1.1, fun i hi => (o2.2 i fun q => hi (List.mem_append_right _ q)).trans (o1.2 i fun q => hi (List.mem_append_left _ q))⟩
def gtupF (n : Nat) (gs : List D → Env → Option Env) : D → Env → Option Env
  | .tup ds, ε => if ds.length = n then gs ds ε else none
  | _, _ => none
theorem rg_tup {js : List Nat} {n : Nat} {gs : TGs} {gfs : List D → Env → Option Env} (h : RzGs u js gs gfs) : RzG u js (gTup u.K n gs) (gtupF n gfs) := fun B G0 G H σ ε d v Q R r q => by
  cases d with
  | tup ds =>
    simp only [Rep] at r
    obtain ⟨a, vs, rfl, s, rl⟩ := r
    by_cases hn : ds.length = n
    · simp only [gtupF, if_pos hn] at q
      exact ⟨a, vs, rfl, ex_t R.gh s, by rw [← rl.length]; exact hn, h _ _ _ _ _ _ _ _ _ R rl q⟩
    · simp only [gtupF, if_neg hn] at q; exact q.elim
  | _ => exact q.elim
/-! ### assignments -/
def asgF (f : Env → Out D) (gf : D → Env → Option Env) : Env → SO := fun ε => (f ε).toS fun d ε1 => match gf d ε1 with
  | some ε2 => .nx ε2
  | none => .bad
theorem rs_asg {js : List Nat} {te : TE} {g : TG} {f : Env → Out D} {gf : D → Env → Option Env} (h : RzE u W te f) (hg : RzG u js g gf) (hk : ∀ k, k ∈ b → k ∉ js := by decide) : RzS u W b (tAsg te g) (asgF f gf) := fun B G0 G H σ ε N R q =>
  h _ _ _ _ _ _ _ R (q.bnd.mono fun d ε1 G1 H1 e1 R1 h1 v rv => hg _ _ _ _ _ _ _ _ _ R1 rv (by
    cases e : gf d ε1 with
    | none => simp only [e] at h1; exact h1.elim
    | some ε2 => simp only [e] at h1; exact fun σ' R' o => h1.next R' (o.kp hk)))
def setM (f : Env → Out Sl) (i : Nat) : Env → SO := fun ε => (f ε).toS fun s ε1 => .nx (ε1.set i s)
theorem kp_set {i : Nat} {o : Option V} (hk : i ∉ b) : Kp b σ (σ.set i o) := fun k e => by
  have : i ≠ k := fun q => hk (by rw [q]; exact e)
  rw [List.getElem?_set_ne this]
theorem rs_setM {te : TE} {f : Env → Out Sl} {i : Nat} (h : RzM u W te f) (hk : i ∉ b := by decide) : RzS u W b (tAsg te (gName i)) (setM f i) := fun B G0 G H σ ε N R q =>
  h _ _ _ _ _ _ _ R (q.bnd.mono fun s ε1 G1 H1 e1 R1 h1 v sv => by
    cases s with
    | no => exact sv.elim
    | fz d => exact h1.next (R1.setF i sv) (kp_set hk)
    | ow d =>
      obtain ⟨l, rfl, hg, hb, w, ap⟩ := sv
      exact h1.next (R1.setO i hg hb w ap) (kp_set hk))
/-- fewer things to be kept -/
theorem RepE.less {B' : Hp} (R : RepE u B' G0 G H σ ε) (e : Ex B B') : RepE u B G0 G H σ ε :=
  ⟨R.len, R.g0, R.gb.less e, R.gh, e.trans R.bh, fun i s h => by
    obtain ⟨o, h1, h2⟩ := R.sl i s h
    refine ⟨o, h1, ?_⟩
    cases s with
    | no => trivial
    | fz d => exact h2
    | ow d => obtain ⟨l, a, b, c, w⟩ := h2; exact ⟨l, a, b, e.free c, w⟩, R.dj⟩
theorem Pst.less {B' : Hp} {o : Out α} {S : α → Env → Hp → Hp → Prop} (h : Pst u W B G0 σ G o S) (e : Ex B B') : Pst u W B' G0 σ G o S := by
  cases o with
  | ok a ε => exact fun G' H' eg R => h G' H' eg (R.less e)
  | ex x ε => exact fun c dd G' H' eg R => h c dd G' H' eg (R.less e)
  | bad => exact h
theorem PstS.less {B' : Hp} {o : SO} {N : Ends} (h : PstS u W b τ B G0 G o N) (e : Ex B B') : PstS u W b τ B' G0 G o N := by
  cases o with
  | nx ε => exact fun σ G'' H' e' R => h σ G'' H' e' (R.less e)
  | rt d ε => exact fun σ v G'' H' e' R => h σ v G'' H' e' (R.less e)
  | bk ε => exact fun σ G'' H' e' R => h σ G'' H' e' (R.less e)
  | ct ε => exact fun σ G'' H' e' R => h σ G'' H' e' (R.less e)
  | ex x ε => exact fun c dd σ G'' H' e' R => h c dd σ G'' H' e' (R.less e)
  | bad => exact h
/-- a thing of one's own is set aside, among what is to be kept -/
theorem RepE.aside {l : Addr} {o : HO} (R : RepE u B G0 G H σ ε) (hg : G l = none) (h : H l = some o) (ap : Apart σ ε l) : RepE u (upd B l o) G0 G H σ ε := by
  refine ⟨R.len, R.g0, fun a x q => ?_, R.gh, fun a x q => ?_, fun i s hs => ?_, R.dj⟩
  · by_cases ha : a = l
    · subst ha; exact .inl (by rw [hg, R.g0.free hg])
    · rw [upd_ne ha] at q; exact R.gb a x q
  · by_cases ha : a = l
    · subst ha; rw [upd_same] at q; cases q; exact h
    · rw [upd_ne ha] at q; exact R.bh a x q
  · obtain ⟨v, h1, h2⟩ := R.sl i s hs
    refine ⟨v, h1, ?_⟩
    cases s with
    | no => trivial
    | fz d => exact h2
    | ow d =>
      obtain ⟨m, a, b, c, w⟩ := h2
      have hm : m ≠ l := fun q => by subst q; exact ap i d hs (by rw [h1, a])
      exact ⟨m, a, b, by rw [upd_ne hm]; exact c, w⟩
/-- .. and comes back -/
theorem RepE.back {l : Addr} {o : HO} (R : RepE u (upd B l o) G0 G H σ ε) (hb : B l = none) (h0 : G0 l = none) (ht : ∀ vs, o ≠ .tup vs) : G l = none ∧ H l = some o ∧ Apart σ ε l ∧ RepE u B G0 G H σ ε := by
  refine ⟨(R.gb.at_ upd_same ht).trans h0, R.bh l o upd_same, fun i d hi q => ?_, R.less (Ex.upd hb)⟩
  obtain ⟨v, h1, h2⟩ := R.sl i _ hi
  obtain ⟨m, rfl, _, c, _⟩ := h2
  rw [h1] at q
  cases q
  rw [upd_same] at c; cases c
theorem Own.at_ {u : Uv} {G H H' : Hp} {l : Addr} {d : D} {o : HO} (h : Own u G H l d) (e : H l = some o) (e' : H' l = some o) : Own u G H' l d := h.mono (Ex.refl _) fun x q => by rw [e] at q; cases q; exact e'
theorem apart_set {ε : Env} {l : Addr} {i : Nat} {d : D} {v : V} (ap : Apart σ ε l) : Apart (σ.set i (some v)) (ε.set i (.fz d)) l := fun j d' h q => by
  by_cases hj : j = i
  · subst hj
    by_cases hl : j < ε.length
    · rw [List.getElem?_set_self hl] at h; cases h
    · rw [List.getElem?_eq_none (by simpa using hl)] at h; cases h
  · rw [List.getElem?_set_ne (Ne.symm hj)] at h q
    exact ap j d' h q
theorem apart_setO {ε : Env} {l m : Addr} {i : Nat} {d : D} (ap : Apart σ ε l) (hm : m ≠ l) : Apart (σ.set i (some (.ref m))) (ε.set i (.ow d)) l := fun j d' h q => by
  by_cases hj : j = i
  · subst hj
    by_cases hl : j < σ.length
    · rw [List.getElem?_set_self hl] at q; cases q; exact hm rfl
    · rw [List.getElem?_eq_none (by simpa using hl)] at q; cases q
  · rw [List.getElem?_set_ne (Ne.symm hj)] at h q
    exact ap j d' h q
def parF (i j : Nat) (f g : Env → Out Sl) : Env → SO := fun ε => (f ε).toS fun s ε1 => (g ε1).toS fun t ε2 => .nx ((ε2.set i s).set j t)
theorem rs_par {i j : Nat} {ta tb : TE} {f g : Env → Out Sl} (ha : RzM u W ta f) (hb : RzM u W tb g) (hk : i ∉ b := by decide) (hk' : j ∉ b := by decide) : RzS u W b (tPar i j (tCons ta (tCons tb tNil))) (parF i j f g) := fun B G0 G H σ ε N R q =>
  ha _ _ _ _ _ _ _ R (q.bnd.mono fun s ε1 G1 H1 e1 R1 h1 v sv => by
    cases s with
    | no => exact sv.elim
    | fz d =>
      refine hb _ _ _ _ _ _ _ R1 (h1.bnd.mono fun t ε2 G2 H2 e2 R2 h2 w tw => ⟨v, w, rfl, ?_⟩)
      have R3 := R2.setF i (sv.mono e2)
      cases t with
      | no => exact tw.elim
      | fz d' => exact h2.next (R3.setF j tw) ((kp_set hk).trans (kp_set hk'))
      | ow d' =>
        obtain ⟨l, rfl, hg, hb', w', ap⟩ := tw
        exact h2.next (R3.setO j hg hb' w' (apart_set ap)) ((kp_set hk).trans (kp_set hk'))
    | ow d =>
      obtain ⟨l, rfl, hg, hb', w', ap⟩ := sv
      obtain ⟨o, ho⟩ := Own.has w'
      have R1' := R1.aside hg ho ap
      refine hb _ _ _ _ _ _ _ R1' ((h1.bnd.less (Ex.upd hb')).mono fun t ε2 G2 H2 e2 R2 h2 w tw => ⟨_, w, rfl, ?_⟩)
      obtain ⟨b1, b2, b3, b4⟩ := R2.back hb' (R1.g0.free hg) (w'.ntup ho)
      have w2 : Own u G2 H2 l d := w'.mono e2 fun x q => by rw [ho] at q; cases q; exact b2
      have R3 := b4.setO i b1 hb' w2 b3
      cases t with
      | no => exact tw.elim
      | fz d' => exact h2.next (R3.setF j tw) ((kp_set hk).trans (kp_set hk'))
      | ow d' =>
        obtain ⟨m, rfl, hg3, hb3, w3, ap3⟩ := tw
        have hm : l ≠ m := fun q => by subst q; rw [upd_same] at hb3; cases hb3
        have hbm : B m = none := by rw [upd_ne (Ne.symm hm)] at hb3; exact hb3
        exact h2.next (R3.setO j hg3 hbm w3 (apart_setO ap3 hm)) ((kp_set hk).trans (kp_set hk')))
end
end ML
end
section
set_option Elab.async false
set_option linter.all false
set_option maxRecDepth 100000
set_option maxHeartbeats 2000000
set_option autoImplicit false
namespace ML
open PySem L2

/-! ### walks -/
/-- a new heap on both sides: nothing that stood is newly known -/
structure Ext (G H G' H' : Hp) : Prop where
  g : Ex G G'
  h : Ex H H'
  gh : Ex G' H'
  nw : Nw H G G'
theorem Ext.refl {G H : Hp} (e : Ex G H) : Ext G H G H := ⟨Ex.refl _, Ex.refl _, e, Nw.refl⟩
theorem Ext.new {G H : Hp} (e : Ex G H) {p : Addr} (hp : H p = none) (o : HO) : Ext G H (upd G p o) (upd H p o) :=
  ⟨Ex.upd (e.free hp), Ex.upd hp, e.both, Nw.of fun _ _ h => upd_ne (ne_of_none h hp)⟩
structure WalkD (u : Uv) (J : It) (ds : List D) (G0 : Hp) : Prop where
  go : ∀ i G H, i < ds.length → Ex G0 G → Ex G H → J.go i H
  stop : ∀ G H, Ex G0 G → Ex G H → J.stop ds.length H
  yld : ∀ i G H x H' d, ds[i]? = some d → Ex G0 G → Ex G H → J.yld i H x H' → ∃ G', Ext G H G' H' ∧ Rep u G' d x
def SI (u : Uv) (R : It → Hp → Prop) : List D → Env → Hp → Hp → Prop := fun ds _ G H => ∀ J, WalkD u J ds G → R J H
def RzI (u : Uv) (W : WX) (wi : TI) (f : Env → Out (List D)) : Prop := ∀ B G0 G H σ ε Q, RepE u B G0 G H σ ε → Pst u W B G0 σ G (f ε) (SI u Q) → wi σ H Q
section
variable {α β : Type} {u : Uv} {W : WX} {b : List Nat} {B G0 G G' H H' : Hp} {σ : L2.St} {ε : Env}
theorem RepE.ext (R : RepE u B G0 G H σ ε) (e : Ext G H G' H') : RepE u B G0 G' H' σ ε := R.grow e.g e.nw e.h e.gh

/-! ### for -/
def forF (gf : D → Env → Option Env) (F : Env → SO) : List D → Env → SO
  | [], ε => .nx ε
  | d :: ds, ε => match gf d ε with
    | none => .bad
    | some ε1 => match F ε1 with
      | .nx ε2 => forF gf F ds ε2
      | .ct ε2 => forF gf F ds ε2
      | .bk ε2 => .nx ε2
      | .rt r ε2 => .rt r ε2
      | .ex x ε2 => .ex x ε2
      | .bad => .bad
def forS (fi : Env → Out (List D)) (gf : D → Env → Option Env) (F : Env → SO) : Env → SO := fun ε => (fi ε).toS fun ds ε1 => forF gf F ds ε1
theorem rs_for {js : List Nat} {wi : TI} {g : TG} {tb : TS} {fi : Env → Out (List D)} {gf : D → Env → Option Env} {F : Env → SO} (hi : RzI u W wi fi) (hg : RzG u js g gf) (hb : RzS u W b tb F) (hk : ∀ k, k ∈ b → k ∉ js := by decide) :
    RzS u W b (tFor wi g tb) (forS fi gf F) := fun B G0 G H σ ε N R q =>
  hi _ _ _ _ _ _ _ R (q.bnd.mono fun ds ε1 G1 H1 e1 R1 h1 J wJ => by
    refine ⟨fun i m σ2 H => m = ds.length - i ∧ i ≤ ds.length ∧ ∃ ε G, Ex G1 G ∧ RepE u B G0 G H σ2 ε ∧ Kp b σ σ2 ∧ PstS u W b σ B G0 G (forF gf F (ds.drop i) ε) N, ⟨ds.length, by simp, Nat.zero_le _, ε1, G1, Ex.refl _, R1, .refl, h1⟩, ?_⟩
    rintro i m σ2 H2 ⟨rfl, hi, ε2, G2, e2, R2, k2, h2⟩
    by_cases hlt : i < ds.length
    · refine .inr ⟨wJ.go i G2 H2 hlt e2 R2.gh, fun σ' H' => ∃ ε' G', Ex G1 G' ∧ RepE u B G0 G' H' σ' ε' ∧ Kp b σ σ' ∧ PstS u W b σ B G0 G' (forF gf F (ds.drop (i + 1)) ε') N, fun σ' H' ⟨ε', G', a, b, k, c⟩ => ⟨ds.length - (i + 1), by omega, rfl, hlt, ε', G', a, b, k, c⟩, fun x H3 hy => ?_⟩
      obtain ⟨G3, ext, rx⟩ := wJ.yld i G2 H2 x H3 ds[i] (by simp [hlt]) e2 R2.gh hy
      rw [List.drop_eq_getElem_cons hlt] at h2
      unfold forF at h2
      refine hg _ _ _ _ _ _ _ _ _ (R2.ext ext) rx ?_
      cases eg : gf ds[i] ε2 with
      | none => rw [eg] at h2; exact h2.elim
      | some ε3 =>
        rw [eg] at h2
        refine fun σ4 R4 o4 => hb _ _ _ _ _ _ _ R4 ?_
        have k4 : Kp b σ σ4 := k2.trans (o4.kp hk)
        have h3 := h2.up ext.g
        simp only at h3
        cases ef : F ε3 with
        | nx ε5 => rw [ef] at h3; exact fun σ5 G5 H5 e5 R5 k5 => ⟨ε5, G5, (e2.trans ext.g).trans e5, R5, k4.trans k5, PstS.up (G := G3) h3 e5⟩
        | ct ε5 => rw [ef] at h3; exact fun σ5 G5 H5 e5 R5 k5 => ⟨ε5, G5, (e2.trans ext.g).trans e5, R5, k4.trans k5, PstS.up (G := G3) h3 e5⟩
        | bk ε5 => rw [ef] at h3; exact PstS.on (W := W) (τ := σ) (o := .bk ε5) (N := { N with bk := N.nx }) h3 k4
        | rt r ε5 => rw [ef] at h3; exact PstS.on (τ := σ) (o := .rt r ε5) (N := N) h3 k4
        | ex x ε5 => rw [ef] at h3; exact h3
        | bad => rw [ef] at h3; exact h3
    · have e : i = ds.length := by omega
      subst e
      rw [List.drop_length] at h2
      exact .inl ⟨wJ.stop G2 H2 e2 R2.gh, PstS.next (ε := ε2) h2 R2 k2⟩)
/-! ### while, by fuel -/
def whF (c : Env → Out Bool) (F : Env → SO) : Nat → Env → SO
  | 0, _ => .bad
  | n + 1, ε => (c ε).toS fun b ε1 => if b = true then (match F ε1 with
      | .nx ε2 => whF c F n ε2
      | .ct ε2 => whF c F n ε2
      | .bk ε2 => .nx ε2
      | .rt r ε2 => .rt r ε2
      | .ex x ε2 => .ex x ε2
      | .bad => .bad) else .nx ε1
theorem rs_while {n : Nat} {t : TT} {tb : TS} {c : Env → Out Bool} {F : Env → SO} (h : RzT u W t c) (hb : RzS u W b tb F) : RzS u W b (tWhile t tb) (whF c F n) := fun B G0 G H σ ε N R q => by
  refine ⟨fun m σ2 H => ∃ ε G1, Ex G G1 ∧ RepE u B G0 G1 H σ2 ε ∧ Kp b σ σ2 ∧ PstS u W b σ B G0 G1 (whF c F m ε) N, ⟨n, ε, G, Ex.refl _, R, .refl, q⟩, ?_⟩
  rintro m σ1 H1 ⟨ε1, G1, e1, R1, k1, q1⟩
  cases m with
  | zero => exact q1.elim
  | succ m =>
    unfold whF at q1
    refine h _ _ _ _ _ _ _ R1 (q1.bnd.mono fun b' ε2 G2 H2 e2 R2 h2 => ?_)
    show if b' = true then _ else _
    cases b' with
    | false => simp only [Bool.false_eq_true, if_false] at h2 ⊢; exact h2.next R2 k1
    | true =>
      simp only [if_true] at h2 ⊢
      refine ⟨fun σ' H' => ∃ ε' G', Ex G G' ∧ RepE u B G0 G' H' σ' ε' ∧ Kp b σ σ' ∧ PstS u W b σ B G0 G' (whF c F m ε') N, fun σ' H' ⟨ε', G', a, b, k, c⟩ => ⟨m, Nat.lt_succ_self _, ε', G', a, b, k, c⟩, hb _ _ _ _ _ _ _ R2 ?_⟩
      cases ef : F ε2 with
      | nx ε5 => rw [ef] at h2; exact fun σ5 G5 H5 e5 R5 k5 => ⟨ε5, G5, (e1.trans e2).trans e5, R5, k1.trans k5, PstS.up (G := G2) h2 e5⟩
      | ct ε5 => rw [ef] at h2; exact fun σ5 G5 H5 e5 R5 k5 => ⟨ε5, G5, (e1.trans e2).trans e5, R5, k1.trans k5, PstS.up (G := G2) h2 e5⟩
      | bk ε5 => rw [ef] at h2; exact PstS.on (W := W) (τ := σ) (o := .bk ε5) (N := { N with bk := N.nx }) h2 k1
      | rt r ε5 => rw [ef] at h2; exact PstS.on (τ := σ) (o := .rt r ε5) (N := N) h2 k1
      | ex x ε5 => rw [ef] at h2; exact h2
      | bad => rw [ef] at h2; exact h2
/-! ### comprehensions -/
def wipeE (ε : Env) : List Nat → Env
  | [] => ε
  | v :: vs => (wipeE ε vs).set v .no
theorem wipe_get {σ : St} {i : Nat} : ∀ {vs : List Nat}, i ∉ vs → (wipe σ vs)[i]? = σ[i]?
  | [], _ => rfl
  | v :: vs, h => by
    have h1 : i ≠ v := fun e => h (by simp [e])
    unfold wipe
    rw [List.getElem?_set_ne (Ne.symm h1), wipe_get fun q => h (List.mem_cons_of_mem _ q)]
theorem wipeE_get {ε : Env} {i : Nat} : ∀ {vs : List Nat}, i ∉ vs → (wipeE ε vs)[i]? = ε[i]?
  | [], _ => rfl
  | v :: vs, h => by
    have h1 : i ≠ v := fun e => h (by simp [e])
    unfold wipeE
    rw [List.getElem?_set_ne (Ne.symm h1), wipeE_get fun q => h (List.mem_cons_of_mem _ q)]
theorem wipeE_length (ε : Env) : ∀ vs : List Nat, (wipeE ε vs).length = ε.length
  | [] => rfl
  | v :: vs => by unfold wipeE; rw [List.length_set, wipeE_length ε vs]
theorem wipeE_in {ε : Env} {i : Nat} : ∀ {vs : List Nat}, i ∈ vs → ∀ s, (wipeE ε vs)[i]? = some s → s = .no
  | v :: vs, h, s, e => by
    unfold wipeE at e
    by_cases hi : i = v
    · subst hi
      by_cases hl : i < (wipeE ε vs).length
      · rw [List.getElem?_set_self hl] at e; cases e; rfl
      · rw [List.getElem?_eq_none (by simpa using hl)] at e; cases e
    · rw [List.getElem?_set_ne (Ne.symm hi)] at e
      exact wipeE_in (by cases h with | head => exact absurd rfl hi | tail _ q => exact q) s e
/-- other values in slots that are not told -/
theorem RepE.other {σ' : St} (vs : List Nat) (R : RepE u B G0 G H σ ε) (hl : σ'.length = σ.length) (h : ∀ i, i ∉ vs → σ'[i]? = σ[i]?) : RepE u B G0 G H σ' (wipeE ε vs) := by
  refine ⟨by rw [wipeE_length, hl, R.len], R.g0, R.gb, R.gh, R.bh, fun i s hs => ?_, fun i j a d d' hij h1 h2 h3 => ?_⟩
  · by_cases hi : i ∈ vs
    · have : s = .no := wipeE_in hi s hs
      subst this
      have hlt : i < σ'.length := by
        have := (List.getElem?_eq_some_iff.mp hs).1
        rw [wipeE_length, ← R.len, ← hl] at this
        exact this
      exact ⟨σ'[i], by simp [hlt], trivial⟩
    · rw [wipeE_get hi] at hs
      rw [h i hi]
      exact R.sl i s hs
  · have hi : i ∉ vs := fun q => by have := wipeE_in q _ h1; cases this
    have hj : j ∉ vs := fun q => by have := wipeE_in q _ h2; cases this
    rw [wipeE_get hi] at h1
    rw [wipeE_get hj] at h2
    rw [h i hi] at h3
    rw [h j hj]
    exact R.dj i j a d d' hij h1 h2 h3
theorem wipe_only {σ' : St} {js vs : List Nat} (o : Only js (wipe σ vs) σ') (hs : ∀ j, j ∈ js → j ∈ vs) : wipe σ' vs = wipe σ vs := by
  apply List.ext_getElem?
  intro i
  by_cases hi : i ∈ vs
  · have key : ∀ (τ τ' : St), τ.length = τ'.length → ∀ ws : List Nat, i ∈ ws → (wipe τ ws)[i]? = (wipe τ' ws)[i]? := by
      intro τ τ' hl ws
      induction ws with
      | nil => intro h; cases h
      | cons w ws ih =>
        intro h
        unfold wipe
        by_cases hw : w = i
        · subst hw
          by_cases hlt : w < (wipe τ ws).length
          · rw [List.getElem?_set_self hlt, List.getElem?_set_self (by rw [wipe_length] at hlt ⊢; omega)]
          · rw [List.getElem?_eq_none (by simpa using hlt), List.getElem?_eq_none (by rw [wipe_length] at hlt; simp [wipe_length]; omega)]
        · rw [List.getElem?_set_ne hw, List.getElem?_set_ne hw]
          exact ih (by cases h with | head => exact absurd rfl hw | tail _ q => exact q)
    exact key σ' σ (by rw [o.1, wipe_length]) vs hi
  · rw [wipe_get hi, o.2 i fun q => hi (hs i q)]
/-- the items made, and the slots behind -/
def lcL (vs : List Nat) (gf : D → Env → Option Env) (tf : Env → Out Bool) (ef : Env → Out D) : List D → List D → Env → Out (List D)
  | [], acc, ε => .ok acc ε
  | d :: ds, acc, ε => match gf d ε with
    | none => .bad
    | some ε1 => match tf ε1 with
      | .ok true ε2 => (match ef ε2 with
        | .ok y ε3 => if acc.length < 100000 then lcL vs gf tf ef ds (acc ++ [y]) (wipeE ε3 vs) else .bad
        | _ => .bad)
      | .ok false ε2 => lcL vs gf tf ef ds acc (wipeE ε2 vs)
      | _ => .bad
def mkL : List D → Env → Out Sl := fun acc ε => .ok (.ow (.lst acc)) ε
def lcM (vs : List Nat) (fi : Env → Out (List D)) (gf : D → Env → Option Env) (tf : Env → Out Bool) (ef : Env → Out D) : Env → Out Sl := fun ε => (fi ε).bnd fun ds ε1 => (lcL vs gf tf ef ds [] (wipeE ε1 vs)).bnd mkL
def noW : WX := fun _ _ _ _ => False
theorem Pst.noW {o : Out α} {S : α → Env → Hp → Hp → Prop} {a : α} {ε' : Env} (e : o = .ok a ε') (h : ∀ G' H', Ex G G' → RepE u B G0 G' H' σ ε' → S a ε' G' H') : Pst u W B G0 σ G o S := by rw [e]; exact h
theorem rzm_lc {js vs : List Nat} {wi : TI} {g : TG} {tt : TT} {te : TE} {fi : Env → Out (List D)} {gf : D → Env → Option Env} {tf : Env → Out Bool} {ef : Env → Out D}
    (hi : RzI u W wi fi) (hg : RzG u js g gf) (ht : RzT u W tt tf) (he : RzE u W te ef) (hjs : ∀ j, j ∈ js → j ∈ vs := by decide) : RzM u W (tLc wi g tt te vs) (lcM vs fi gf tf ef) := fun B G0 G H σ ε Q R q =>
  hi _ _ _ _ _ _ _ R (q.bnd.mono fun ds ε1 G1 H1 e1 R1 h1 J wJ D0 hD => by
    have hBG := R1.free hD
    refine ⟨fun i m H => m = ds.length - i ∧ i ≤ ds.length ∧ ∃ ε G acc as, Ex G1 G ∧ RepE u (upd B D0 (.lst as)) G0 G H (wipe σ vs) ε ∧ RepL u G acc as ∧ (∀ j s, j ∈ vs → ε[j]? = some s → s = .no) ∧
      Pst u W B G0 σ G ((lcL vs gf tf ef (ds.drop i) acc ε).bnd mkL) (SM u B σ Q), ⟨ds.length, by simp, Nat.zero_le _, wipeE ε1 vs, G1, [], [], Ex.refl _, ?_, by simp [RepL], fun j s hj hs => wipeE_in hj s hs, h1⟩, ?_⟩
    · exact ((R1.lay hD (.lst [])).aside hBG.1 upd_same (apart_new R1 hD)).other vs (wipe_length _ _) fun i hi => wipe_get hi
    · rintro i m H2 ⟨rfl, hi, ε2, G2, acc, as, e2, R2, ra, hno, h2⟩
      obtain ⟨b1, b2, b3, b4⟩ := R2.back hBG.2.1 hBG.2.2 (fun _ z => by cases z)
      by_cases hlt : i < ds.length
      · refine .inr ⟨wJ.go i G2 H2 hlt e2 R2.gh, fun H' => ∃ ε G acc as, Ex G1 G ∧ RepE u (upd B D0 (.lst as)) G0 G H' (wipe σ vs) ε ∧ RepL u G acc as ∧ (∀ j s, j ∈ vs → ε[j]? = some s → s = .no) ∧
          Pst u W B G0 σ G ((lcL vs gf tf ef (ds.drop (i + 1)) acc ε).bnd mkL) (SM u B σ Q), fun H' h => ⟨ds.length - (i + 1), by omega, rfl, hlt, h⟩, fun x H3 hy => ?_⟩
        obtain ⟨G3, ext, rx⟩ := wJ.yld i G2 H2 x H3 ds[i] (by simp [hlt]) e2 R2.gh hy
        rw [List.drop_eq_getElem_cons hlt] at h2
        unfold lcL at h2
        refine hg _ _ _ _ _ _ _ _ _ (R2.ext ext) rx ?_
        cases eg : gf ds[i] ε2 with
        | none => rw [eg] at h2; exact h2.elim
        | some ε3 =>
          rw [eg] at h2
          simp only at h2
          refine fun σ4 R4 o4 => ⟨wipe_only o4 hjs, ht _ _ _ _ _ _ _ R4 ?_⟩
          have ow : ∀ i, i ∉ vs → (wipe σ vs)[i]? = σ4[i]? := fun i hi => (o4.2 i fun q => hi (hjs i q)).symm
          cases et : tf ε3 with
          | bad => rw [et] at h2; exact h2.elim
          | ex x ε4 => rw [et] at h2; exact h2.elim
          | ok b ε4 =>
            rw [et] at h2
            intro G5 H5 e5 R5
            show if b = true then _ else _
            cases b with
            | false =>
              simp only [Bool.false_eq_true, if_false]
              exact ⟨wipeE ε4 vs, G5, acc, as, (e2.trans ext.g).trans e5, R5.other vs o4.1.symm ow, RepL.mono (ext.g.trans e5) _ ra, fun j s hj hs => wipeE_in hj s hs, Pst.up (G := G2) h2 (ext.g.trans e5)⟩
            | true =>
              simp only [if_true]
              simp only at h2
              refine he _ _ _ _ _ _ _ R5 ?_
              cases ee : ef ε4 with
              | bad => rw [ee] at h2; exact h2.elim
              | ex x ε4 => rw [ee] at h2; exact h2.elim
              | ok y ε6 =>
                rw [ee] at h2
                intro G6 H6 e6 R6 v rv
                simp only at h2
                by_cases hz : acc.length < 100000
                · rw [if_pos hz] at h2
                  obtain ⟨c1, c2, c3, c4⟩ := R6.back hBG.2.1 hBG.2.2 (fun _ z => by cases z)
                  have eG : Ex G2 G6 := (ext.g.trans e5).trans e6
                  refine ⟨as, c2, sz_lt (by rw [← ra.length]; exact hz), wipeE ε6 vs, G6, acc ++ [y], as ++ [v], e2.trans eG, ?_, (RepL.mono eG _ ra).snoc rv, fun j s hj hs => wipeE_in hj s hs, Pst.up (G := G2) h2 eG⟩
                  refine RepE.other vs ?_ o4.1.symm ow
                  refine RepE.aside (l := D0) ?_ c1 upd_same c3
                  refine ⟨c4.len, c4.g0, c4.gb, c4.gh.mut c1, c4.bh.mut hBG.2.1, fun i s hs => ?_, c4.dj⟩
                  obtain ⟨o, a1, a2⟩ := c4.sl i s hs
                  refine ⟨o, a1, ?_⟩
                  cases s with
                  | no => trivial
                  | fz d => exact a2
                  | ow d =>
                    obtain ⟨l, z1, z2, z3, z4⟩ := a2
                    have hl : l ≠ D0 := fun q => by subst q; exact c3 i d hs (by rw [a1, z1])
                    exact ⟨l, z1, z2, z3, z4.mono (Ex.refl _) fun o z => by rw [upd_ne hl]; exact z⟩
                · rw [if_neg hz] at h2; exact h2.elim
      · have e : i = ds.length := by omega
        subst e
        rw [List.drop_length] at h2
        have R9 : RepE u B G0 G2 H2 σ ε2 := by
          have z := b4.other (σ' := σ) vs (wipe_length _ _).symm fun i hi => (wipe_get hi).symm
          have ew : wipeE ε2 vs = ε2 := by
            apply List.ext_getElem?
            intro i
            by_cases hi : i ∈ vs
            · cases e9 : ε2[i]? with
              | none =>
                rw [List.getElem?_eq_none_iff] at e9 ⊢
                rw [wipeE_length]; exact e9
              | some s =>
                have := hno i s hi e9
                subst this
                have hl : i < (wipeE ε2 vs).length := by rw [wipeE_length]; exact (List.getElem?_eq_some_iff.mp e9).1
                have q : (wipeE ε2 vs)[i]? = some (wipeE ε2 vs)[i] := by simp [hl]
                rw [q, wipeE_in hi _ q]
            · exact wipeE_get hi
          rwa [ew] at z
        have ap : Apart σ ε2 D0 := fun j d hj hs => by
          by_cases hv : j ∈ vs
          · have := hno j _ hv hj; cases this
          · exact b3 j d hj (by rw [wipe_get hv]; exact hs)
        exact .inl ⟨wJ.stop G2 H2 e2 R2.gh, Pst.ret (W := W) (B := B) (S := SM u B σ Q) (a := Sl.ow (.lst acc)) h2 R9 _ ⟨D0, rfl, b1, hBG.2.1, ⟨as, b2, ra⟩, ap⟩⟩)
def tYesF : Env → Out Bool := fun ε => .ok true ε
end
end ML
end
section
set_option Elab.async false
set_option linter.all false
set_option maxRecDepth 100000
set_option maxHeartbeats 2000000
set_option autoImplicit false
namespace ML
open PySem PySem.Spec PyProof.Rows L2

/-! ### defs -/
inductive Rt where
  | ret (d : D) | exn (x : Xn) | bad
def SO.fin : SO → Rt
  | .nx _ => .ret .non
  | .rt d _ => .ret d
  | _ => .bad
def SO.finX : SO → Rt
  | .nx _ => .ret .non
  | .rt d _ => .ret d
  | .ex x _ => .exn x
  | _ => .bad
def envOf (n : Nat) (ds : List D) : Env := ds.map Sl.fz ++ List.replicate (n - ds.length) .no
def runF (n : Nat) (F : Env → SO) (ds : List D) : Rt := (F (envOf n ds)).fin
def runX (n : Nat) (F : Env → SO) (ds : List D) : Rt := (F (envOf n ds)).finX
/-- the promise of a def that computes F -/
def SpF (u : Uv) (n : Nat) (F : List D → Rt) : Sp := fun vs H Q E => ∃ B G ds, ds.length = n ∧ Ex G H ∧ Ex B H ∧ RepL u G ds vs ∧ match F ds with
  | .ret d => ∀ v G' H', Ex G G' → Nw B G G' → Ex G' H' → Ex B H' → Rep u G' d v → Q v H'
  | .exn x => ∀ c dd G' H', Ex G G' → Nw B G G' → Ex G' H' → Ex B H' → RepX u G' H' x c dd → E c dd H'
  | .bad => False
section
variable {u : Uv} {W : WX} {B G0 G G' H H' : Hp} {σ : L2.St} {ε : Env}
theorem repE_start {N : List Str} {vs : List V} {ds : List D} (e : Ex G H) (b : Ex B H) (r : RepL u G ds vs) : RepE u B G G H (L2.start N vs) (envOf N.length ds) := by
  refine ⟨by simp [L2.start, envOf, r.length], Ex.refl _, Nw.refl, e, b, fun i s hs => ?_, fun i j a d d' hij h1 => ?_⟩
  · unfold envOf at hs
    unfold L2.start
    by_cases hi : i < ds.length
    · rw [List.getElem?_append_left (by simpa using hi)] at hs
      rw [List.getElem?_append_left (by simpa [← r.length] using hi)]
      rw [List.getElem?_map] at hs ⊢
      have e1 : ds[i]? = some ds[i] := by simp [hi]
      rw [e1] at hs
      cases hs
      obtain ⟨v, e2, rv⟩ := r.get e1
      exact ⟨some v, by rw [e2]; rfl, v, rfl, rv⟩
    · rw [List.getElem?_append_right (by simpa using hi)] at hs
      rw [List.getElem?_append_right (by simpa [← r.length] using hi)]
      rw [List.getElem?_replicate] at hs ⊢
      simp only [List.length_map] at hs ⊢
      rw [← r.length]
      split at hs
      · cases hs
        rename_i hlt
        rw [if_pos hlt]
        exact ⟨none, rfl, trivial⟩
      · cases hs
  · unfold envOf at h1
    by_cases hi : i < ds.length
    · rw [List.getElem?_append_left (by simpa using hi), List.getElem?_map] at h1
      cases e1 : ds[i]? <;> rw [e1] at h1 <;> cases h1
    · rw [List.getElem?_append_right (by simpa using hi), List.getElem?_replicate] at h1
      split at h1 <;> cases h1
variable {P : Program} {w : World} {mg : Str → Option Value} {base : Heap} {x qual : Str} {params : Arguments} {body : List Stmt} {scope : Scope} {f : Addr} {fd : FuncData}
/-- a def computes F (no error leaves it) -/
theorem okF {K : PySem.W.Frag} {N ps : List Str} {k n : Nat} {F : Env → SO} (hK : u.K = K) (F0 : FunD K x qual params body scope [] [] f fd) (S : FnScope N ps scope) (hn : N.length = n)
    (hb : ∀ (cdv : Value) (A : Around) (outer : List PySem.Env) (s : Shared) (H : Hp) (E : XK), Room k (A.deeper (envOfC qual scope s.heap.objs.size f cdv)) → ∃ t, PSs (cxOf CX0 P w K mg base N qual scope f cdv A outer s H E).nox body t ∧ RzS u noW [] t F) :
    FnOk P w K mg base CX0 (k + 1) f fd ps (SpF u ps.length (runF n F)) := by
  refine F0.ok S (fun vs H Q E ⟨B, G, ds, hl, e, b, r, _⟩ => by rw [← r.length]; exact hl) fun cdv A outer s H vs Q E hr hsp => ?_
  obtain ⟨t, ht, hz⟩ := hb cdv A outer s H E hr
  refine ⟨t, ht.nox, ?_⟩
  obtain ⟨B, G, ds, hl, e, b, r, q⟩ := hsp
  subst hn
  refine hz B G G H _ _ _ (repE_start e b r) ?_
  unfold runF at q
  cases ef : F (envOf N.length ds) with
  | nx ε' => rw [ef] at q; exact fun σ' G' H' eg R _ => q .non G' H' eg R.gb R.gh R.bh (by simp only [Rep])
  | rt d ε' => rw [ef] at q; exact fun σ' v G' H' eg R _ rv => q v G' H' eg R.gb R.gh R.bh rv
  | ex x ε' => rw [ef] at q; exact q.elim
  | bk ε' => rw [ef] at q; exact q.elim
  | ct ε' => rw [ef] at q; exact q.elim
  | bad => rw [ef] at q; exact q.elim

/-! ### calls -/
def callO (r : Rt) (ε : Env) : Out D := match r with
  | .ret d => .ok d ε
  | .exn x => .ex x ε
  | .bad => .bad
def callF (n : Nat) (fa : Env → Out (List D)) (F : List D → Rt) : Env → Out D := fun ε => (fa ε).bnd fun ds ε1 => if ds.length = n then callO (F ds) ε1 else .bad
theorem rz_call {n : Nat} {E : XK} {ta : TA} {fa : Env → Out (List D)} {F : List D → Rt} (ha : RzA u W ta fa) (hE : ∀ c dd σ H, W c dd σ H → E c dd H) : RzE u W (tCall (SpF u n F) [] E ta) (callF n fa F) := fun B G0 G H σ ε Q R q =>
  ha _ _ _ _ _ _ _ R (q.bnd.mono fun ds ε1 G1 H1 e1 R1 h1 vs rvs => by
    by_cases hn : ds.length = n
    · simp only [if_pos hn] at h1
      refine ⟨H1, G1, ds, hn, R1.gh, Ex.refl _, by rw [List.append_nil]; exact rvs, ?_⟩
      cases ef : F ds with
      | ret d => rw [ef] at h1; exact fun v G' H' eg gb gh bh rv => Pst.ret' (a := d) h1 eg (R1.grow eg gb bh gh) v rv
      | exn x => rw [ef] at h1; exact fun c dd G' H' eg gb gh bh rx => hE c dd σ H' (h1 c dd G' H' eg (R1.grow eg gb bh gh) rx)
      | bad => rw [ef] at h1; exact h1.elim
    · simp only [if_neg hn] at h1; exact h1.elim)
theorem rz_call0 {n : Nat} {ta : TA} {fa : Env → Out (List D)} {F : List D → Rt} (ha : RzA u noW ta fa) : RzE u noW (tCall (SpF u n F) [] E0 ta) (callF n fa F) := rz_call ha fun _ _ _ _ h => h

/-! ### defs that change their first argument -/
inductive RtM where
  | ret (d d0 : D) | bad
def envM (n : Nat) (d0 : D) (ds : List D) : Env := .ow d0 :: (ds.map Sl.fz ++ List.replicate (n - 1 - ds.length) .no)
def ow0 : Env → Option D
  | .ow d :: _ => some d
  | _ => none
def SO.finM : SO → RtM
  | .nx ε => match ow0 ε with | some d0 => .ret .non d0 | none => .bad
  | .rt d ε => match ow0 ε with | some d0 => .ret d d0 | none => .bad
  | _ => .bad
def runM (n : Nat) (F : Env → SO) (d0 : D) (ds : List D) : RtM := (F (envM n d0 ds)).finM
def SpM (u : Uv) (n : Nat) (F : D → List D → RtM) : Sp := fun vs H Q E => ∃ B G l d0 ds ws, ds.length = n ∧ vs = .ref l :: ws ∧ Ex G H ∧ Ex B H ∧ G l = none ∧ B l = none ∧ Own u G H l d0 ∧ RepL u G ds ws ∧ match F d0 ds with
  | .ret d d1 => ∀ v G' H', Ex G G' → Nw B G G' → Ex G' H' → Ex B H' → G' l = none → Own u G' H' l d1 → Rep u G' d v → Q v H'
  | .bad => False
theorem repE_startM {N : List Str} {vs : List V} {d0 : D} {ds : List D} {l : Addr} (hN : 1 ≤ N.length) (e : Ex G H) (b : Ex B H) (hg : G l = none) (hb : B l = none) (ho : Own u G H l d0) (r : RepL u G ds vs) :
    RepE u B G G H (L2.start N (.ref l :: vs)) (envM N.length d0 ds) := by
  have hz := repE_start (u := u) (B := B) (N := N) (vs := .non :: vs) (ds := .non :: ds) e b ⟨.non, vs, rfl, by simp only [Rep], r⟩
  have h2 := hz.setO 0 hg hb ho (fun i d hi => by
    intro _
    unfold envOf at hi
    by_cases hlt : i < (D.non :: ds).length
    · rw [List.getElem?_append_left (by simpa using hlt), List.getElem?_map] at hi
      cases e1 : (D.non :: ds)[i]? <;> rw [e1] at hi <;> cases hi
    · rw [List.getElem?_append_right (by simpa using hlt), List.getElem?_replicate] at hi
      split at hi <;> cases hi)
  have e1 : (L2.start N (.non :: vs)).set 0 (some (V.ref l)) = L2.start N (.ref l :: vs) := by simp [L2.start]
  have e2 : (envOf N.length (.non :: ds)).set 0 (Sl.ow d0) = envM N.length d0 ds := by
    simp only [envOf, envM, List.map_cons, List.cons_append, List.set_cons_zero, List.length_cons]
    congr 3
    omega
  rw [e1, e2] at h2
  exact h2
theorem ow0_some {ε : Env} {d : D} (h : ow0 ε = some d) : ε[0]? = some (.ow d) := by
  cases ε with
  | nil => cases h
  | cons s r =>
    cases s with
    | ow d' => simp only [ow0, Option.some.injEq] at h; subst h; rfl
    | _ => cases h
theorem okM {K : PySem.W.Frag} {N ps : List Str} {k n m : Nat} {F : Env → SO} (hK : u.K = K) (F0 : FunD K x qual params body scope [] [] f fd) (S : FnScope N ps scope) (hn : N.length = n) (hm : ps.length = m + 1)
    (hb : ∀ (cdv : Value) (A : Around) (outer : List PySem.Env) (s : Shared) (H : Hp) (E : XK), Room k (A.deeper (envOfC qual scope s.heap.objs.size f cdv)) → ∃ t, PSs (cxOf CX0 P w K mg base N qual scope f cdv A outer s H E).nox body t ∧ RzS u noW [0] t F) :
    FnOk P w K mg base CX0 (k + 1) f fd ps (SpM u m (runM n F)) := by
  refine F0.ok S (fun vs H Q E ⟨B, G, l, d0, ds, ws, hl, ev, e, b, _, _, _, r, _⟩ => by rw [ev, List.length_cons, ← r.length, hl, hm]) fun cdv A outer s H vs Q E hr hsp => ?_
  obtain ⟨t, ht, hz⟩ := hb cdv A outer s H E hr
  refine ⟨t, ht.nox, ?_⟩
  obtain ⟨B, G, l, d0, ds, ws, hl, rfl, e, b, hg, hb', ho, r, q⟩ := hsp
  subst hn
  have hN : 1 ≤ N.length := by
    have h1 := congrArg List.length S.pre
    rw [List.length_take] at h1
    omega
  refine hz B G G H _ _ _ (repE_startM hN e b hg hb' ho r) ?_
  have fin : ∀ (σ' : L2.St) (ε' : Env) (G' H' : Hp) (d1 : D), RepE u B G G' H' σ' ε' → Kp [0] (L2.start N (.ref l :: ws)) σ' → ow0 ε' = some d1 → G' l = none ∧ Own u G' H' l d1 := fun σ' ε' G' H' d1 R k h1 => by
    obtain ⟨o, a1, a2⟩ := R.sl 0 _ (ow0_some h1)
    obtain ⟨l', rfl, a3, a4, a5⟩ := a2
    have k0 : σ'[0]? = some (some (.ref l)) := by rw [k 0 (by simp)]; rfl
    rw [a1] at k0
    cases k0
    exact ⟨a3, a5⟩
  unfold runM at q
  cases ef : F (envM N.length d0 ds) with
  | nx ε' =>
    rw [ef] at q
    simp only [SO.finM] at q
    cases eo : ow0 ε' with
    | none => rw [eo] at q; exact q.elim
    | some d1 =>
      rw [eo] at q
      exact fun σ' G' H' eg R k => by
        obtain ⟨z1, z2⟩ := fin σ' ε' G' H' d1 R k eo
        exact q .non G' H' eg R.gb R.gh R.bh z1 z2 (by simp only [Rep])
  | rt d ε' =>
    rw [ef] at q
    simp only [SO.finM] at q
    cases eo : ow0 ε' with
    | none => rw [eo] at q; exact q.elim
    | some d1 =>
      rw [eo] at q
      exact fun σ' v G' H' eg R k rv => by
        obtain ⟨z1, z2⟩ := fin σ' ε' G' H' d1 R k eo
        exact q v G' H' eg R.gb R.gh R.bh z1 z2 rv
  | ex x ε' => rw [ef] at q; exact q.elim
  | bk ε' => rw [ef] at q; exact q.elim
  | ct ε' => rw [ef] at q; exact q.elim
  | bad => rw [ef] at q; exact q.elim
/-- H without l -/
def sans (H : Hp) (l : Addr) : Hp := fun a => if a = l then none else H a
theorem sans_ex {l : Addr} : Ex (sans H l) H := fun a o h => by
  unfold sans at h
  split at h
  · cases h
  · exact h
theorem sans_ne {l a : Addr} (h : a ≠ l) : sans H l a = H a := if_neg h
theorem sans_at {l : Addr} : sans H l l = none := if_pos rfl
/-- the object of slot i has changed to d' at l -/
theorem RepE.chg {i : Nat} {l : Addr} {d d' : D} (R : RepE u B G0 G H σ ε) (hi : ε[i]? = some (.ow d)) (hs : σ[i]? = some (some (.ref l))) (eg : Ex G G') (nw : Nw (sans H l) G G') (gh : Ex G' H') (bh : Ex (sans H l) H') (hg : G' l = none) (ho : Own u G' H' l d') :
    RepE u B G0 G' H' σ (ε.set i (.ow d')) := by
  obtain ⟨o, a1, a2⟩ := R.sl i _ hi
  rw [hs] at a1
  cases a1
  obtain ⟨l', q, b1, b2, b3⟩ := a2
  cases q
  have Rb : Ex B (sans H l) := fun a o h => by rw [sans_ne (ne_of_none h b2)]; exact R.bh a o h
  have R1 : RepE u B G0 G' H' σ (ε.set i .no) := by
    refine ⟨by simp [R.len], R.g0.trans eg, R.gb.trans (nw.less Rb), gh, Rb.trans bh, fun j s h => ?_, fun j k a e e' hjk h1 h2 h3 => ?_⟩
    · by_cases hj : j = i
      · subst hj
        rw [List.getElem?_set_self (List.getElem?_eq_some_iff.mp hi).1] at h
        cases h
        exact ⟨_, hs, trivial⟩
      · rw [List.getElem?_set_ne (Ne.symm hj)] at h
        obtain ⟨o, z1, z2⟩ := R.sl j s h
        refine ⟨o, z1, ?_⟩
        cases s with
        | no => trivial
        | fz d => obtain ⟨v, c1, c2⟩ := z2; exact ⟨v, c1, c2.mono eg⟩
        | ow e =>
          obtain ⟨m, c1, c2, c3, c4⟩ := z2
          have hm : m ≠ l := fun q => by subst q; exact R.dj i j m d e (Ne.symm hj) hi h hs (by rw [z1, c1])
          obtain ⟨oo, c5⟩ := Own.has c4
          exact ⟨m, c1, (nw.at_ (o := oo) (by rw [sans_ne hm]; exact c5) (c4.ntup c5)).trans c2, c3, c4.mono eg fun o z => bh _ _ (by rw [sans_ne hm]; exact z)⟩
    · have hj : j ≠ i := fun q => by subst q; rw [List.getElem?_set_self (List.getElem?_eq_some_iff.mp hi).1] at h1; cases h1
      have hk : k ≠ i := fun q => by subst q; rw [List.getElem?_set_self (List.getElem?_eq_some_iff.mp hi).1] at h2; cases h2
      rw [List.getElem?_set_ne (Ne.symm hj)] at h1
      rw [List.getElem?_set_ne (Ne.symm hk)] at h2
      exact R.dj j k a e e' hjk h1 h2 h3
  have ap : Apart σ (ε.set i .no) l := fun j e h q => by
    have hj : j ≠ i := fun q => by subst q; rw [List.getElem?_set_self (List.getElem?_eq_some_iff.mp hi).1] at h; cases h
    rw [List.getElem?_set_ne (Ne.symm hj)] at h
    exact R.dj i j l d e (Ne.symm hj) hi h hs q
  have R2 := R1.setO i hg b2 ho ap
  rw [set_same hs, List.set_set] at R2
  exact R2
theorem RepE.own {i : Nat} {d : D} (R : RepE u B G0 G H σ ε) (hi : ε[i]? = some (.ow d)) : ∃ l, σ[i]? = some (some (.ref l)) ∧ G l = none ∧ B l = none ∧ Own u G H l d := by
  obtain ⟨o, a1, a2⟩ := R.sl i _ hi
  obtain ⟨l, rfl, a3, a4, a5⟩ := a2
  exact ⟨l, a1, a3, a4, a5⟩
def ownAt (i : Nat) (ε : Env) : Option D := match ε[i]? with
  | some (.ow d) => some d
  | _ => none
theorem ownAt_some {i : Nat} {d : D} (h : ownAt i ε = some d) : ε[i]? = some (.ow d) := by
  unfold ownAt at h
  split at h
  · cases h; assumption
  · cases h
/-- f(x, ..), x one's own thing, which f changes -/
def callMF (n i : Nat) (fa : Env → Out (List D)) (F : D → List D → RtM) : Env → Out D := fun ε => match ownAt i ε with
  | none => .bad
  | some _ => (fa ε).bnd fun ds ε1 => if ds.length = n then (match ownAt i ε1 with
    | none => .bad
    | some d => match F d ds with
      | .ret r d' => .ok r (ε1.set i (.ow d'))
      | .bad => .bad) else .bad
theorem rz_callM {n i : Nat} {E : XK} {ta : TA} {fa : Env → Out (List D)} {F : D → List D → RtM} (ha : RzA u W ta fa) : RzE u W (tCall (SpM u n F) [] E (tCons (tVar i) ta)) (callMF n i fa F) := fun B G0 G H σ ε Q R q => by
  unfold callMF at q
  cases e0 : ownAt i ε with
  | none => rw [e0] at q; exact q.elim
  | some d0 =>
    rw [e0] at q
    simp only at q
    obtain ⟨l, hv, _⟩ := R.own (ownAt_some e0)
    refine ⟨_, hv, ha _ _ _ _ _ _ _ R (q.bnd.mono fun ds ε1 G1 H1 e1 R1 h1 vs rvs => ?_)⟩
    by_cases hn : ds.length = n
    · simp only [if_pos hn] at h1
      cases eo : ownAt i ε1 with
      | none => simp only [eo] at h1; exact h1.elim
      | some d =>
        simp only [eo] at h1
        obtain ⟨l', a1, a2, a3, a4⟩ := R1.own (ownAt_some eo)
        rw [hv] at a1
        cases a1
        refine ⟨sans H1 l, G1, l, d, ds, vs, hn, by simp, R1.gh, sans_ex, a2, sans_at, a4, rvs, ?_⟩
        cases ef : F d ds with
        | bad => rw [ef] at h1; exact h1.elim
        | ret r d' =>
          rw [ef] at h1
          exact fun v G' H' eg nw gh bh hg ho rv => Pst.ret' (a := r) h1 eg (R1.chg (ownAt_some eo) hv eg nw gh bh hg ho) v rv
    · simp only [if_neg hn] at h1; exact h1.elim
end
end ML
end
section
set_option Elab.async false
set_option linter.all false
set_option maxRecDepth 100000
set_option maxHeartbeats 2000000
set_option autoImplicit false
namespace ML
open PySem PySem.Spec PyProof.Rows L2
section
variable {u : Uv} {W : WX} {b : List Nat} {B G0 G G' H H' : Hp} {σ : L2.St} {ε : Env}

/-! ### one's own lists and dicts, changed -/
theorem RepE.put {i : Nat} {l : Addr} {d d' : D} {o : HO} (R : RepE u B G0 G H σ ε) (hi : ε[i]? = some (.ow d)) (hs : σ[i]? = some (some (.ref l))) (hg : G l = none) (ho : Own u G (upd H l o) l d') : RepE u B G0 G (upd H l o) σ (ε.set i (.ow d')) :=
  R.chg hi hs (Ex.refl _) Nw.refl (R.gh.mut hg) (fun a x q => by
    have ha : a ≠ l := fun z => by subst z; rw [sans_at] at q; cases q
    rw [sans_ne ha] at q; rw [upd_ne ha]; exact q) hg ho
def ownL (i : Nat) (ε : Env) : Option (List D) := match ε[i]? with
  | some (.ow (.lst ds)) => some ds
  | _ => none
theorem ownL_some {i : Nat} {ds : List D} (h : ownL i ε = some ds) : ε[i]? = some (.ow (.lst ds)) := by
  unfold ownL at h
  split at h
  · cases h; assumption
  · cases h
theorem RepE.ownl {i : Nat} {ds : List D} (R : RepE u B G0 G H σ ε) (hi : ownL i ε = some ds) : ∃ l vs, σ[i]? = some (some (.ref l)) ∧ G l = none ∧ B l = none ∧ H l = some (.lst vs) ∧ RepL u G ds vs := by
  obtain ⟨l, a1, a2, a3, vs, a4, a5⟩ := R.own (ownL_some hi)
  exact ⟨l, vs, a1, a2, a3, a4, a5⟩
theorem RepE.putl {i : Nat} {l : Addr} {ds ds' : List D} {vs : List V} (R : RepE u B G0 G H σ ε) (hi : ownL i ε = some ds) (hs : σ[i]? = some (some (.ref l))) (hg : G l = none) (r : RepL u G ds' vs) : RepE u B G0 G (upd H l (.lst vs)) σ (ε.set i (.ow (.lst ds'))) :=
  R.put (ownL_some hi) hs hg ⟨vs, upd_same, r⟩
/-- xs.append(e) -/
def appF (i : Nat) (f : Env → Out D) : Env → SO := fun ε => match ownL i ε with
  | none => .bad
  | some _ => (f ε).toS fun d ε1 => match ownL i ε1 with
    | some ds => if ds.length < 100000 then .nx (ε1.set i (.ow (.lst (ds ++ [d])))) else .bad
    | none => .bad
theorem rs_app {i : Nat} {te : TE} {f : Env → Out D} (h : RzE u W te f) : RzS u W b (tDrop (tBM u.K "list" rAppend (tVar i) (tCons te tNil))) (appF i f) := fun B G0 G H σ ε N R q => by
  unfold appF at q
  cases e0 : ownL i ε with
  | none => rw [e0] at q; exact q.elim
  | some d0 =>
    rw [e0] at q
    simp only at q
    obtain ⟨l, vs0, hv, hg, hb, h0, _⟩ := R.ownl e0
    refine ⟨_, hv, .inl ⟨rfl, vs0, SqL.of h0⟩, h _ _ _ _ _ _ _ R (q.bnd.mono fun d ε1 G1 H1 e1 R1 h1 v rv => ?_)⟩
    cases eo : ownL i ε1 with
    | none => simp only [eo] at h1; exact h1.elim
    | some ds =>
      simp only [eo] at h1
      obtain ⟨l', vs, a1, a2, a3, a4, a5⟩ := R1.ownl eo
      rw [hv] at a1
      cases a1
      by_cases hz : ds.length < 100000
      · rw [if_pos hz] at h1
        exact ⟨l, vs, v, rfl, rfl, a4, sz_lt (by rw [← a5.length]; exact hz), h1.next (R1.putl eo hv a2 (a5.snoc rv)) .refl⟩
      · rw [if_neg hz] at h1; exact h1.elim
/-- xs.extend(e), e a list -/
def extF (i : Nat) (f : Env → Out D) : Env → SO := fun ε => match ownL i ε with
  | none => .bad
  | some _ => (f ε).toS fun d ε1 => match d, ownL i ε1 with
    | .lst es, some ds => if ds.length + es.length ≤ 100000 then .nx (ε1.set i (.ow (.lst (ds ++ es)))) else .bad
    | _, _ => .bad
theorem rs_ext {i : Nat} {te : TE} {f : Env → Out D} (h : RzE u W te f) : RzS u W b (tDrop (tBM u.K "list" rExtend (tVar i) (tCons te tNil))) (extF i f) := fun B G0 G H σ ε N R q => by
  unfold extF at q
  cases e0 : ownL i ε with
  | none => rw [e0] at q; exact q.elim
  | some d0 =>
    rw [e0] at q
    simp only at q
    obtain ⟨l, vs0, hv, hg, hb, h0, _⟩ := R.ownl e0
    refine ⟨_, hv, .inl ⟨rfl, vs0, SqL.of h0⟩, h _ _ _ _ _ _ _ R (q.bnd.mono fun d ε1 G1 H1 e1 R1 h1 v rv => ?_)⟩
    cases eo : ownL i ε1 with
    | none => simp only [eo] at h1; exact h1.elim
    | some ds =>
      cases d with
      | lst es =>
        simp only [eo] at h1
        simp only [Rep] at rv
        obtain ⟨p, ws, rfl, r1, r2⟩ := rv
        obtain ⟨l', vs, a1, a2, a3, a4, a5⟩ := R1.ownl eo
        rw [hv] at a1
        cases a1
        by_cases hz : ds.length + es.length ≤ 100000
        · rw [if_pos hz] at h1
          exact ⟨l, p, vs, ws, rfl, rfl, a4, R1.gh _ _ r1, sz_of (by rw [← a5.length, ← r2.length]; exact hz), h1.next (R1.putl eo hv a2 (a5.append r2)) .refl⟩
        · rw [if_neg hz] at h1; exact h1.elim
      | _ => simp only [eo] at h1; exact h1.elim
/-- xs.pop() -/
def popF (i : Nat) : Env → Out D := fun ε => match ownL i ε with
  | none => .bad
  | some ds => match ds[ds.length - 1]? with
    | some d => .ok d (ε.set i (.ow (.lst ds.dropLast)))
    | none => .bad
theorem rz_pop {i : Nat} : RzE u W (tBM0 u.K "list" rPop (tVar i)) (popF i) := fun B G0 G H σ ε Q R q => by
  unfold popF at q
  cases e0 : ownL i ε with
  | none => rw [e0] at q; exact q.elim
  | some ds =>
    rw [e0] at q
    simp only at q
    obtain ⟨l, vs, hv, hg, hb, h0, r⟩ := R.ownl e0
    cases el : ds[ds.length - 1]? with
    | none => rw [el] at q; exact q.elim
    | some d =>
      rw [el] at q
      obtain ⟨v, e1, rv⟩ := r.get el
      rw [r.length] at e1
      exact ⟨_, hv, .inl ⟨rfl, vs, SqL.of h0⟩, l, vs, v, rfl, rfl, h0, e1, q.ret' (Ex.refl _) (R.putl e0 hv hg r.dropLast) v rv⟩
/-- xs[i] = e -/
def setIF (i : Nat) (fe fi : Env → Out D) : Env → SO := fun ε => (fe ε).toS fun d ε1 => match ownL i ε1 with
  | none => .bad
  | some _ => (fi ε1).toS fun k ε2 => match k, ownL i ε2 with
    | .int k, some ds => (match ixN ds.length k with
      | some j => .nx (ε2.set i (.ow (.lst (ds.set j d))))
      | none => .bad)
    | _, _ => .bad
theorem rs_setI {i : Nat} {te ti : TE} {fe fi : Env → Out D} (h : RzE u W te fe) (h' : RzE u W ti fi) : RzS u W b (tAsg te (gSub (tVar i) ti rSetL)) (setIF i fe fi) := fun B G0 G H σ ε N R q =>
  h _ _ _ _ _ _ _ R (q.bnd.mono fun d ε1 G1 H1 e1 R1 h1 v rv => by
    cases e0 : ownL i ε1 with
    | none => simp only [e0] at h1; exact h1.elim
    | some d0 =>
      simp only [e0] at h1
      obtain ⟨l, vs0, hv, _⟩ := R1.ownl e0
      refine ⟨_, hv, h' _ _ _ _ _ _ _ R1 (h1.bnd.mono fun k ε2 G2 H2 e2 R2 h2 w rw => ?_)⟩
      cases k with
      | int k =>
        cases eo : ownL i ε2 with
        | none => simp only [eo] at h2; exact h2.elim
        | some ds =>
          simp only [eo] at h2
          obtain ⟨l', vs, a1, a2, a3, a4, a5⟩ := R2.ownl eo
          rw [hv] at a1
          cases a1
          cases ej : ixN ds.length k with
          | none => rw [ej] at h2; exact h2.elim
          | some j =>
            rw [ej] at h2
            simp only [Rep] at rw
            exact ⟨l, vs, k, j, rfl, rw, a4, by rw [← a5.length]; exact ej, h2.next (R2.putl eo hv a2 (a5.set j (rv.mono e2))) .refl⟩
      | _ => exact h2.elim)
/-! ### dicts -/
def toKey : D → Option Key
  | .int i => some (.inl i)
  | .str s => some (.inr s)
  | _ => none
theorem toKey_rep {d : D} {k : Key} {v : V} (h : toKey d = some k) (r : Rep u G d v) : v = kV k := by
  cases d with
  | int i => cases h; exact (by simpa only [Rep] using r : v = V.int i)
  | str i => cases h; exact (by simpa only [Rep] using r : v = V.str i)
  | _ => cases h
def valD {κ : Type} [DecidableEq κ] (ks : List κ) (xs : List D) (k : κ) : Option D := ((ks.zip xs).find? fun p => decide (p.1 = k)).map (·.2)
def putD {κ : Type} [DecidableEq κ] (ks : List κ) (xs : List D) (k : κ) (d : D) : List κ × List D :=
  if k ∈ ks then (ks, List.zipWith (fun k' x => if k' = k then d else x) ks xs) else (ks ++ [k], xs ++ [d])
theorem valD_rep {κ : Type} [DecidableEq κ] {k : κ} : ∀ {ks : List κ} {xs : List D} {ws : List V}, RepL u G xs ws → ks.length = ws.length →
    (valD ks xs k = none ∧ valV (ks.zip ws) k = none) ∨ ∃ d v, valD ks xs k = some d ∧ valV (ks.zip ws) k = some v ∧ Rep u G d v
  | [], _, _, _, _ => .inl ⟨rfl, rfl⟩
  | k' :: ks, [], _, r, h => by simp only [RepL] at r; subst r; cases h
  | k' :: ks, x :: xs, ws, r, h => by
    simp only [RepL] at r
    obtain ⟨v, rr, rfl, r1, r2⟩ := r
    by_cases e : k' = k
    · exact .inr ⟨x, v, by simp [valD, List.find?_cons, e], by simp [valV, List.find?_cons, e], r1⟩
    · have := valD_rep (k := k) (ks := ks) (xs := xs) (ws := rr) r2 (by simpa using h)
      simpa [valD, valV, List.find?_cons, e] using this
theorem zipWith_rep {κ : Type} [DecidableEq κ] {k : κ} {d : D} {v : V} (rv : Rep u G d v) : ∀ {ks : List κ} {xs : List D} {ws : List V}, RepL u G xs ws → ks.length = ws.length →
    ∃ ws', RepL u G (List.zipWith (fun k' x => if k' = k then d else x) ks xs) ws' ∧ ks.length = ws'.length ∧ (ks.zip ws).map (fun kv => if kv.1 = k then (kv.1, v) else kv) = ks.zip ws'
  | [], xs, ws, r, h => by
    cases ws with
    | nil => exact ⟨[], by simp [RepL], rfl, rfl⟩
    | cons _ _ => cases h
  | k' :: ks, [], _, r, h => by simp only [RepL] at r; subst r; cases h
  | k' :: ks, x :: xs, ws, r, h => by
    simp only [RepL] at r
    obtain ⟨v', rr, rfl, r1, r2⟩ := r
    obtain ⟨ws', h1, h2, h3⟩ := zipWith_rep (ks := ks) (k := k) rv r2 (by simpa using h)
    by_cases e : k' = k
    · exact ⟨v :: ws', ⟨v, ws', rfl, by simpa [e] using rv, h1⟩, by simp [h2], by simp [e, h3]⟩
    · exact ⟨v' :: ws', ⟨v', ws', rfl, by simpa [e] using r1, h1⟩, by simp [h2], by simp [e, h3]⟩
theorem any_zip {κ : Type} [DecidableEq κ] {k : κ} : ∀ {ks : List κ} {ws : List V}, ks.length = ws.length → ((ks.zip ws).any fun kv => decide (kv.1 = k)) = decide (k ∈ ks)
  | [], ws, h => by cases ws <;> simp
  | k' :: ks, [], h => by cases h
  | k' :: ks, w :: ws, h => by
    have := any_zip (k := k) (ks := ks) (ws := ws) (by simpa using h)
    simp only [List.zip_cons_cons, List.any_cons, this]
    by_cases e : k' = k
    · simp [e]
    · simp [e, Ne.symm e]
theorem putD_rep {κ : Type} [DecidableEq κ] {k : κ} {d : D} {v : V} {ks : List κ} {xs : List D} {ws : List V} (rv : Rep u G d v) (r : RepL u G xs ws) (h : ks.length = ws.length) :
    ∃ ws', RepL u G (putD ks xs k d).2 ws' ∧ (putD ks xs k d).1.length = ws'.length ∧ putK (ks.zip ws) k v = (putD ks xs k d).1.zip ws' := by
  unfold putD putK
  rw [any_zip h]
  by_cases hk : k ∈ ks
  · simp only [hk, decide_true, if_true]
    exact zipWith_rep rv r h
  · simp only [hk, decide_false, Bool.false_eq_true, if_false]
    refine ⟨ws ++ [v], r.snoc rv, by simp [h], ?_⟩
    rw [List.zip_append h]; rfl
/-- a tuple of ints and texts as a key -/
def kysOf : List D → Option (List Key)
  | [] => some []
  | d :: ds => (toKey d).bind fun k => (kysOf ds).map (k :: ·)
def toKeys : D → Option (List Key)
  | .tup ds => kysOf ds
  | _ => none
theorem kysOf_rep : ∀ {ds : List D} {ks : List Key} {vs : List V}, kysOf ds = some ks → RepL u G ds vs → vs = ks.map kV
  | [], ks, vs, h, r => by simp only [RepL] at r; subst r; simp [kysOf] at h; subst h; rfl
  | d :: ds, ks, vs, h, r => by
    simp only [RepL] at r
    obtain ⟨v, w, rfl, r1, r2⟩ := r
    cases e1 : toKey d with
    | none => simp [kysOf, e1] at h
    | some k =>
      cases e2 : kysOf ds with
      | none => simp [kysOf, e1, e2] at h
      | some l =>
        simp [kysOf, e1, e2] at h
        subst h
        rw [toKey_rep e1 r1, kysOf_rep e2 r2]; rfl
theorem toKeys_rep {d : D} {ks : List Key} {v : V} (h : toKeys d = some ks) (r : Rep u G d v) : ∃ b, v = .ref b ∧ G b = some (.tup (ks.map kV)) := by
  cases d with
  | tup ds =>
    simp only [Rep] at r
    obtain ⟨a, vs, rfl, r1, r2⟩ := r
    exact ⟨a, rfl, by rw [r1, kysOf_rep h r2]⟩
  | _ => cases h
/-- d[k] = e: int and text keys, or tuples of them -/
def dput : D → D → D → Option D
  | .dk ks xs, k, d => (toKey k).bind fun k => if xs.length < 100000 then some (.dk (putD ks xs k d).1 (putD ks xs k d).2) else none
  | .dt ks xs, k, d => (toKeys k).bind fun k => if xs.length < 100000 then some (.dt (putD ks xs k d).1 (putD ks xs k d).2) else none
  | _, _, _ => none
def dputF (i : Nat) (fe fk : Env → Out D) : Env → SO := fun ε => (fe ε).toS fun d ε1 => match ownAt i ε1 with
  | none => .bad
  | some _ => (fk ε1).toS fun k ε2 => match (ownAt i ε2).bind fun x => dput x k d with
    | some x' => .nx (ε2.set i (.ow x'))
    | none => .bad
theorem rs_dput {i : Nat} {te tk : TE} {fe fk : Env → Out D} (h : RzE u W te fe) (h' : RzE u W tk fk) : RzS u W b (sDPut (tVar i) tk te) (dputF i fe fk) := fun B G0 G H σ ε N R q =>
  h _ _ _ _ _ _ _ R (q.bnd.mono fun d ε1 G1 H1 e1 R1 h1 v rv => by
    cases e0 : ownAt i ε1 with
    | none => simp only [e0] at h1; exact h1.elim
    | some d0 =>
      simp only [e0] at h1
      obtain ⟨l, hv, _⟩ := R1.own (ownAt_some e0)
      refine ⟨_, hv, h' _ _ _ _ _ _ _ R1 (h1.bnd.mono fun k ε2 G2 H2 e2 R2 h2 w rw => ?_)⟩
      cases eo : ownAt i ε2 with
      | none => simp only [eo, Option.bind_none] at h2; exact h2.elim
      | some x =>
        simp only [eo, Option.bind_some] at h2
        obtain ⟨l', a1, a2, a3, a4⟩ := R2.own (ownAt_some eo)
        rw [hv] at a1
        cases a1
        cases x with
        | dk ks xs =>
          cases ek : toKey k with
          | none => simp only [dput, ek, Option.bind_none] at h2; exact h2.elim
          | some kk =>
            simp only [dput, ek, Option.bind_some] at h2
            by_cases hz : xs.length < 100000
            · rw [if_pos hz] at h2
              obtain ⟨ws, c1, c2, c3⟩ := a4
              obtain ⟨ws', p1, p2, p3⟩ := putD_rep (k := kk) (rv.mono e2) c3 c2
              refine ⟨l, _, rfl, ?_, h2.next (R2.put (ownAt_some eo) hv a2 ⟨ws', upd_same, p2, p1⟩) .refl⟩
              rw [toKey_rep ek rw, ← p3]
              exact DPut.k c1 (sz_lt (by simp [c2, ← c3.length]; exact hz))
            · rw [if_neg hz] at h2; exact h2.elim
        | dt ks xs =>
          cases ek : toKeys k with
          | none => simp only [dput, ek, Option.bind_none] at h2; exact h2.elim
          | some kk =>
            simp only [dput, ek, Option.bind_some] at h2
            by_cases hz : xs.length < 100000
            · rw [if_pos hz] at h2
              obtain ⟨ws, c1, c2, c3⟩ := a4
              obtain ⟨ws', p1, p2, p3⟩ := putD_rep (k := kk) (rv.mono e2) c3 c2
              obtain ⟨b, hb, eb⟩ := toKeys_rep ek rw
              refine ⟨l, _, rfl, ?_, h2.next (R2.put (ownAt_some eo) hv a2 ⟨ws', upd_same, p2, p1⟩) .refl⟩
              rw [hb, ← p3]
              exact DPut.t c1 (R2.gh _ _ eb) (sz_lt (by simp [c2, ← c3.length]; exact hz))
            · rw [if_neg hz] at h2; exact h2.elim
        | _ => exact h2.elim)
/-- {} for tuples as keys -/
def dnewTM : Env → Out Sl := fun ε => .ok (.ow (.dt [] [])) ε
theorem rzm_dnewT : RzM u W tDNewT dnewTM := fun B G0 G H σ ε Q R q p hp =>
  q.ret' (Ex.refl _) (R.lay hp _) _ ⟨p, rfl, (R.free hp).1, (R.free hp).2.1, ⟨[], upd_same, rfl, by simp [RepL]⟩, apart_new R hp⟩
/-- {} and {k: v} as one's own -/
def dnewM : Env → Out Sl := fun ε => .ok (.ow (.dk [] [])) ε
theorem rzm_dnew : RzM u W tDNewK dnewM := fun B G0 G H σ ε Q R q p hp =>
  q.ret' (Ex.refl _) (R.lay hp _) _ ⟨p, rfl, (R.free hp).1, (R.free hp).2.1, ⟨[], upd_same, rfl, by simp [RepL]⟩, apart_new R hp⟩
/-- {k: v} -/
def done1M (fk fv : Env → Out D) : Env → Out Sl := fun ε => (fk ε).bnd fun k ε1 => (fv ε1).bnd fun d ε2 => Out.opt ((toKey k).map fun k => .ow (.dk [k] [d])) ε2
theorem rzm_d1 {tk tv : TE} {fk fv : Env → Out D} (hk : RzE u W tk fk) (hv : RzE u W tv fv) : RzM u W (tDisp [(tk, tv)]) (done1M fk fv) := fun B G0 G H σ ε Q R q p hp => by
  have hf := R.free hp
  have R1 := (R.lay hp (.dK [])).aside hf.1 upd_same (apart_new R hp)
  refine hk _ _ _ _ _ _ _ R1 ((q.bnd.less (Ex.upd hf.2.1)).mono fun k ε1 G1 H1 e1 R2 h1 v rv => hv _ _ _ _ _ _ _ R2 ((h1.bnd.less (Ex.upd hf.2.1)).mono fun d ε2 G2 H2 e2 R3 h2 w rw => ?_))
  obtain ⟨z, hz, h3⟩ := h2.opt
  cases ek : toKey k with
  | none => rw [ek] at hz; cases hz
  | some kk =>
    rw [ek] at hz
    cases hz
    obtain ⟨b1, b2, b3, b4⟩ := R3.back hf.2.1 hf.2.2 (fun _ z => by cases z)
    refine ⟨b2, [(kk, w)], by rw [toKey_rep ek rv]; rfl, by simp, ?_⟩
    have eU : upd H2 p (.dK (mergeK [] [(kk, w)])) = upd H2 p (.dK ([kk].zip [w])) := by simp [mergeK, putK]
    rw [eU]
    refine h3.ret' (Ex.refl _) ?_ _ ⟨p, rfl, b1, hf.2.1, ⟨[w], upd_same, rfl, RepL.one rw⟩, b3⟩
    refine ⟨b4.len, b4.g0, b4.gb, b4.gh.mut b1, b4.bh.mut hf.2.1, fun i s hs => ?_, b4.dj⟩
    obtain ⟨o, a1, a2⟩ := b4.sl i s hs
    refine ⟨o, a1, ?_⟩
    cases s with
    | no => trivial
    | fz d => exact a2
    | ow d =>
      obtain ⟨l, z1, z2, z3, z4⟩ := a2
      have hl : l ≠ p := fun q => by subst q; exact b3 i d hs (by rw [a1, z1])
      exact ⟨l, z1, z2, z3, z4.mono (Ex.refl _) fun o z => by rw [upd_ne hl]; exact z⟩
/-! ### looked at, and left one's own -/
def lookAt (i : Nat) (ε : Env) : Option D := match ε[i]? with
  | some (.fz d) => some d
  | some (.ow d) => some d
  | _ => none
theorem RepE.look {i : Nat} {d : D} (R : RepE u B G0 G H σ ε) (h : lookAt i ε = some d) : ∃ v, σ[i]? = some (some v) ∧ Rep u H d v := by
  unfold lookAt at h
  cases e : ε[i]? with
  | none => rw [e] at h; cases h
  | some s =>
    rw [e] at h
    obtain ⟨o, a1, a2⟩ := R.sl i s e
    cases s with
    | no => cases h
    | fz d' => cases h; obtain ⟨v, rfl, r⟩ := a2; exact ⟨v, a1, r.mono R.gh⟩
    | ow d' =>
      cases h
      obtain ⟨l, rfl, _, _, w⟩ := a2
      obtain ⟨o, c1, c2⟩ := Own.rep w
      exact ⟨.ref l, a1, c2 H R.gh c1⟩
def isSc : D → Bool
  | .non => true | .bl _ => true | .int _ => true | .str _ => true | _ => false
theorem sc_rep {d : D} {v : V} (h : isSc d = true) (r : Rep u G d v) : Rep u G' d v := by
  cases d with
  | non => exact r
  | bl _ => exact r
  | int _ => exact r
  | str _ => exact r
  | _ => cases h
/-- len(x), x a name: it stays one's own -/
def cbPF (i : Nat) (f : List D → Option D) : Env → Out D := fun ε => match lookAt i ε with
  | none => .bad
  | some d => match f [d] with
    | some z => if isSc z = true then .ok z ε else .bad
    | none => .bad
theorem rz_cbP {i : Nat} {r : List V → Hp → VK → Prop} {f : List D → Option D} (hr : RzC u r f) : RzE u W (tCB r (tCons (tVar i) tNil)) (cbPF i f) := fun B G0 G H σ ε Q R q => by
  unfold cbPF at q
  cases e0 : lookAt i ε with
  | none => rw [e0] at q; exact q.elim
  | some d =>
    rw [e0] at q
    simp only at q
    cases ef : f [d] with
    | none => rw [ef] at q; exact q.elim
    | some z =>
      rw [ef] at q
      simp only at q
      by_cases hz : isSc z = true
      · rw [if_pos hz] at q
        obtain ⟨v, hv, rv⟩ := R.look e0
        refine ⟨v, hv, hr [v] [d] z H H Q (RepL.one rv) ef (Ex.refl _) fun w G' H' eg eh egh _ rw => ?_⟩
        exact q.ret' (Ex.refl _) (R.grow (Ex.refl _) Nw.refl eh (R.gh.trans eh)) w (sc_rep hz rw)
      · rw [if_neg hz] at q; exact q.elim
/-- x op e, x a name -/
def opPLF (i : Nat) (fb : Env → Out D) (f : D → D → Option D) : Env → Out D := fun ε => match lookAt i ε with
  | none => .bad
  | some _ => (fb ε).bnd fun e ε1 => match (lookAt i ε1).bind fun d => f d e with
    | some z => if isSc z = true then .ok z ε1 else .bad
    | none => .bad
theorem rz_opPL {i : Nat} {tb : TE} {r : R2} {fb : Env → Out D} {f : D → D → Option D} (hb : RzE u W tb fb) (hr : RzR u r f) : RzE u W (tOp r (tVar i) tb) (opPLF i fb f) := fun B G0 G H σ ε Q R q => by
  unfold opPLF at q
  cases e0 : lookAt i ε with
  | none => rw [e0] at q; exact q.elim
  | some d0 =>
    rw [e0] at q
    simp only at q
    obtain ⟨v, hv, _⟩ := R.look e0
    refine ⟨v, hv, hb _ _ _ _ _ _ _ R (q.bnd.mono fun e ε1 G1 H1 e1 R1 h1 w rw => ?_)⟩
    cases e2 : lookAt i ε1 with
    | none => simp only [e2, Option.bind_none] at h1; exact h1.elim
    | some d =>
      simp only [e2, Option.bind_some] at h1
      cases ef : f d e with
      | none => simp only [ef] at h1; exact h1.elim
      | some z =>
        simp only [ef] at h1
        by_cases hz : isSc z = true
        · rw [if_pos hz] at h1
          obtain ⟨v', hv', rv⟩ := R1.look e2
          rw [hv] at hv'
          cases hv'
          refine hr v w d e z H1 H1 Q rv (rw.mono R1.gh) ef (Ex.refl _) fun p G' H' eg eh egh _ rp => ?_
          exact h1.ret' (Ex.refl _) (R1.grow (Ex.refl _) Nw.refl eh (R1.gh.trans eh)) p (sc_rep hz rp)
        · rw [if_neg hz] at h1; exact h1.elim
/-- e op x, x a name -/
def opPRF (i : Nat) (fa : Env → Out D) (f : D → D → Option D) : Env → Out D := fun ε => (fa ε).bnd fun d ε1 => match (lookAt i ε1).bind fun e => f d e with
  | some z => if isSc z = true then .ok z ε1 else .bad
  | none => .bad
theorem rz_opPR {i : Nat} {ta : TE} {r : R2} {fa : Env → Out D} {f : D → D → Option D} (ha : RzE u W ta fa) (hr : RzR u r f) : RzE u W (tOp r ta (tVar i)) (opPRF i fa f) := fun B G0 G H σ ε Q R q =>
  ha _ _ _ _ _ _ _ R (q.bnd.mono fun d ε1 G1 H1 e1 R1 h1 w rw => by
    cases e2 : lookAt i ε1 with
    | none => simp only [e2, Option.bind_none] at h1; exact h1.elim
    | some e =>
      simp only [e2, Option.bind_some] at h1
      cases ef : f d e with
      | none => simp only [ef] at h1; exact h1.elim
      | some z =>
        simp only [ef] at h1
        by_cases hz : isSc z = true
        · rw [if_pos hz] at h1
          obtain ⟨v, hv, rv⟩ := R1.look e2
          refine ⟨v, hv, hr w v d e z H1 H1 Q (rw.mono R1.gh) rv ef (Ex.refl _) fun p G' H' eg eh egh _ rp => ?_⟩
          exact h1.ret' (Ex.refl _) (R1.grow (Ex.refl _) Nw.refl eh (R1.gh.trans eh)) p (sc_rep hz rp)
        · rw [if_neg hz] at h1; exact h1.elim)
/-- k in d, k not in d, d a name (a dict) -/
def dinPF (neg : Bool) (i : Nat) (fk : Env → Out D) : Env → Out D := fun ε => (fk ε).bnd fun k ε1 => match toKey k, lookAt i ε1 with
  | some k, some (.dk ks xs) => .ok (.bl (if neg then !(valD ks xs k).isSome else (valD ks xs k).isSome)) ε1
  | none, some (.dt ks xs) => (match toKeys k with
    | some k => .ok (.bl (if neg then !(valD ks xs k).isSome else (valD ks xs k).isSome)) ε1
    | none => .bad)
  | _, _ => .bad
theorem rz_dinP_aux {i : Nat} {tk : TE} {fk : Env → Out D} (neg : Bool) (hk : RzE u W tk fk) : RzE u W (fun σ H Q => tk σ H fun y H1 => tVar i σ H1 fun x H2 => ∃ a o, x = .ref a ∧ DGet H2 a y o ∧ Q (.bl (if neg then !o.isSome else o.isSome)) H2) (dinPF neg i fk) := fun B G0 G H σ ε Q R q =>
  hk _ _ _ _ _ _ _ R (q.bnd.mono fun k ε1 G1 H1 e1 R1 h1 w rw => by
    cases e2 : lookAt i ε1 with
    | none => cases ek : toKey k <;> (simp only [ek, e2] at h1; exact h1.elim)
    | some d =>
      cases ek : toKey k with
      | none =>
        cases d with
        | dt ks xs =>
          simp only [ek, e2] at h1
          cases et : toKeys k with
          | none => simp only [et] at h1; exact h1.elim
          | some kk =>
            simp only [et] at h1
            obtain ⟨v, hv, rv⟩ := R1.look e2
            simp only [Rep] at rv
            obtain ⟨a, ws, rfl, c1, c2, c3⟩ := rv
            obtain ⟨b, hb, eb⟩ := toKeys_rep et rw
            subst hb
            refine ⟨_, hv, a, _, rfl, DGet.t c1 (R1.gh _ _ eb), ?_⟩
            rcases valD_rep (k := kk) c3 c2 with ⟨z1, z2⟩ | ⟨d, v, z1, z2, _⟩
            · rw [z2]; rw [z1] at h1; exact h1.ret R1 _ (by simp [Rep])
            · rw [z2]; rw [z1] at h1; exact h1.ret R1 _ (by simp [Rep])
        | _ => simp only [ek, e2] at h1; exact h1.elim
      | some kk =>
        cases d with
        | dk ks xs =>
          simp only [ek, e2] at h1
          obtain ⟨v, hv, rv⟩ := R1.look e2
          simp only [Rep] at rv
          obtain ⟨a, ws, rfl, c1, c2, c3⟩ := rv
          have hw := toKey_rep ek rw
          subst hw
          refine ⟨_, hv, a, _, rfl, DGet.k c1, ?_⟩
          rcases valD_rep (k := kk) c3 c2 with ⟨z1, z2⟩ | ⟨d, v, z1, z2, _⟩
          · rw [z2]; rw [z1] at h1; exact h1.ret R1 _ (by simp [Rep])
          · rw [z2]; rw [z1] at h1; exact h1.ret R1 _ (by simp [Rep])
        | _ => simp only [ek, e2] at h1; exact h1.elim)
theorem rz_dinP {i : Nat} {tk : TE} {fk : Env → Out D} (hk : RzE u W tk fk) : RzE u W (tDIn tk (tVar i)) (dinPF false i fk) := rz_dinP_aux false hk
theorem rz_dninP {i : Nat} {tk : TE} {fk : Env → Out D} (hk : RzE u W tk fk) : RzE u W (tDNotIn tk (tVar i)) (dinPF true i fk) := rz_dinP_aux true hk
/-- d[k], d an expression -/
def dgetD : D → D → Option D
  | .dk ks xs, k => (toKey k).bind fun k => valD ks xs k
  | .dt ks xs, k => (toKeys k).bind fun k => valD ks xs k
  | _, _ => none
def dgetF (f fk : Env → Out D) : Env → Out D := op2F f fk dgetD
theorem rz_dget {td tk : TE} {f fk : Env → Out D} (h : RzE u W td f) (hk : RzE u W tk fk) : RzE u W (tDGet td tk) (dgetF f fk) := fun B G0 G H σ ε Q R q =>
  h _ _ _ _ _ _ _ R (q.bnd.mono fun d ε1 G1 H1 e1 R1 h1 v rv => hk _ _ _ _ _ _ _ R1 (h1.bnd.mono fun k ε2 G2 H2 e2 R2 h2 w rw => by
    obtain ⟨z, hz, h3⟩ := h2.opt
    cases d with
    | dk ks xs =>
      have rv := rv.mono e2
      simp only [Rep] at rv
      obtain ⟨a, ws, rfl, c1, c2, c3⟩ := rv
      cases ek : toKey k with
      | none => simp [dgetD, ek] at hz
      | some kk =>
        simp only [dgetD, ek, Option.bind_some] at hz
        rcases valD_rep (k := kk) c3 c2 with ⟨z1, z2⟩ | ⟨d, v, z1, z2, z3⟩
        · rw [z1] at hz; cases hz
        · rw [z1] at hz; cases hz
          have hw := toKey_rep ek rw
          subst hw
          exact ⟨a, v, rfl, z2 ▸ DGet.k (R2.gh _ _ c1), h3.ret R2 _ z3⟩
    | dt ks xs =>
      have rv := rv.mono e2
      simp only [Rep] at rv
      obtain ⟨a, ws, rfl, c1, c2, c3⟩ := rv
      cases ek : toKeys k with
      | none => simp [dgetD, ek] at hz
      | some kk =>
        simp only [dgetD, ek, Option.bind_some] at hz
        rcases valD_rep (k := kk) c3 c2 with ⟨z1, z2⟩ | ⟨d, v, z1, z2, z3⟩
        · rw [z1] at hz; cases hz
        · rw [z1] at hz; cases hz
          obtain ⟨b, hb, eb⟩ := toKeys_rep ek rw
          subst hb
          exact ⟨a, v, rfl, z2 ▸ DGet.t (R2.gh _ _ c1) (R2.gh _ _ eb), h3.ret R2 _ z3⟩
    | _ => cases hz))
/-- d[k], d a name (one's own or not) -/
def dgetPF (i : Nat) (fk : Env → Out D) : Env → Out D := fun ε => match ε[i]? with
  | some (.ow x) => (fk ε).bnd fun k ε1 => if (match ε1[i]? with | some (.ow _) => true | _ => false) then Out.opt ((ownAt i ε1).bind fun x => dgetD x k) ε1 else .bad
  | _ => .bad
theorem rz_dgetP {i : Nat} {tk : TE} {fk : Env → Out D} (hk : RzE u W tk fk) : RzE u W (tDGet (tVar i) tk) (dgetPF i fk) := fun B G0 G H σ ε Q R q => by
  unfold dgetPF at q
  cases e0 : ε[i]? with
  | none => rw [e0] at q; exact q.elim
  | some s =>
    cases s with
    | ow x =>
      rw [e0] at q
      obtain ⟨l, hv, _⟩ := R.own e0
      refine ⟨_, hv, hk _ _ _ _ _ _ _ R (q.bnd.mono fun k ε1 G1 H1 e1 R1 h1 w rw => ?_)⟩
      cases eo : ownAt i ε1 with
      | none =>
        have : (match ε1[i]? with | some (.ow _) => true | _ => false) = false := by
          cases e9 : ε1[i]? with
          | none => rfl
          | some s => cases s with
            | ow z => rw [ownAt, e9] at eo; cases eo
            | _ => rfl
        simp only [this] at h1; exact h1.elim
      | some x =>
        have e9 := ownAt_some eo
        rw [e9, eo] at h1
        simp only [if_pos, Option.bind_some] at h1
        obtain ⟨z, hz, h3⟩ := h1.opt
        obtain ⟨l', a1, a2, a3, a4⟩ := R1.own e9
        rw [hv] at a1
        cases a1
        cases x with
        | dk ks xs =>
          obtain ⟨ws, c1, c2, c3⟩ := a4
          cases ek : toKey k with
          | none => simp [dgetD, ek] at hz
          | some kk =>
            simp only [dgetD, ek, Option.bind_some] at hz
            rcases valD_rep (k := kk) c3 c2 with ⟨z1, z2⟩ | ⟨d, v, z1, z2, z3⟩
            · rw [z1] at hz; cases hz
            · rw [z1] at hz; cases hz
              have hw := toKey_rep ek rw
              subst hw
              exact ⟨l, v, rfl, z2 ▸ DGet.k c1, h3.ret R1 _ z3⟩
        | dt ks xs =>
          obtain ⟨ws, c1, c2, c3⟩ := a4
          cases ek : toKeys k with
          | none => simp [dgetD, ek] at hz
          | some kk =>
            simp only [dgetD, ek, Option.bind_some] at hz
            rcases valD_rep (k := kk) c3 c2 with ⟨z1, z2⟩ | ⟨d, v, z1, z2, z3⟩
            · rw [z1] at hz; cases hz
            · rw [z1] at hz; cases hz
              obtain ⟨b, hb, eb⟩ := toKeys_rep ek rw
              subst hb
              exact ⟨l, v, rfl, z2 ▸ DGet.t c1 (R1.gh _ _ eb), h3.ret R1 _ z3⟩
        | _ => cases hz
    | _ => rw [e0] at q; exact q.elim
end
end ML
end
section
set_option Elab.async false
set_option linter.all false
set_option maxRecDepth 100000
set_option maxHeartbeats 2000000
set_option autoImplicit false
namespace ML
open PySem PySem.Spec PyProof.Rows L2
section
variable {u : Uv} {W : WX} {b : List Nat} {B G0 G G' H H' : Hp} {σ : L2.St} {ε : Env}

/-! ### what is walked -/
def signsD (z : Str) : List D := z.cps.toList.map fun c => D.str ⟨#[c]⟩
def itemsD : D → Option (List D)
  | .lst ds => some ds
  | .tup ds => some ds
  | .scr ns => some (ns.map D.int)
  | .str z => some (signsD z)
  | _ => none
theorem repL_ints : ∀ {ns : List Int}, RepL u G (ns.map D.int) (ns.map V.int)
  | [] => by simp [RepL]
  | n :: ns => ⟨.int n, ns.map V.int, rfl, by simp only [Rep], repL_ints⟩
theorem walk_seq {J : It} {ds : List D} {vs : List V} {Gd : Hp → Prop} (r : RepL u G ds vs) (hg : ∀ H, Ex G H → Gd H) (w : Walk J vs.length Gd (YAt vs)) : WalkD u J ds G :=
  ⟨fun i G1 H hi e1 e2 => w.goes i H (by rw [← r.length]; exact hi) (hg H (e1.trans e2)), fun G1 H e1 e2 => by rw [r.length]; exact w.stops H (hg H (e1.trans e2)), fun i G1 H x H' d hd e1 e2 hy => by
    have hi : i < vs.length := by rw [← r.length]; exact (List.getElem?_eq_some_iff.mp hd).1
    obtain ⟨e3, hx⟩ := w.yields i H x H' hi (hg H (e1.trans e2)) hy
    subst e3
    obtain ⟨v, hv, rv⟩ := r.get hd
    rw [hx] at hv
    cases hv
    exact ⟨G1, Ext.refl e2, rv.mono e1⟩⟩
theorem walk_signs {z : Str} : WalkD u (Its z) (signsD z) G :=
  ⟨fun i G1 H hi _ _ => by show i < z.cps.size; simpa [signsD] using hi, fun G1 H _ _ => by show z.cps.size ≤ _; simp [signsD], fun i G1 H x H' d hd e1 e2 hy => by
    obtain ⟨e3, c, hc, hx⟩ := (hy : H' = H ∧ ∃ c, z.cps[i]? = some c ∧ x = .str ⟨#[c]⟩)
    subst e3 hx
    simp only [signsD, List.getElem?_map, Array.getElem?_toList, hc, Option.map_some, Option.some.injEq] at hd
    subst hd
    exact ⟨G1, Ext.refl e2, by simp only [Rep]⟩⟩
def itF (f : Env → Out D) : Env → Out (List D) := fun ε => (f ε).bnd fun d ε1 => Out.opt (itemsD d) ε1
theorem ri_any {te : TE} {f : Env → Out D} (h : RzE u W te f) : RzI u W (MH.iAny u.K te) (itF f) := fun B G0 G H σ ε Q R q =>
  h _ _ _ _ _ _ _ R (q.bnd.mono fun d ε1 G1 H1 e1 R1 h1 v rv => by
    obtain ⟨ds, hd, h2⟩ := h1.opt
    cases d with
    | lst xs =>
      cases hd
      simp only [Rep] at rv
      obtain ⟨a, vs, rfl, c1, c2⟩ := rv
      exact .inl ⟨a, rfl, ⟨vs, SqL.of (R1.gh _ _ c1)⟩, h2.ret R1 _ (walk_seq c2 (fun H e => SqL.of (e _ _ c1)) walk_list)⟩
    | scr ns =>
      cases hd
      simp only [Rep] at rv
      obtain ⟨a, rfl, c1⟩ := rv
      exact .inl ⟨a, rfl, ⟨_, ex_l R1.gh c1⟩, h2.ret R1 _ (walk_seq repL_ints (fun H e => ex_l e c1) walk_list)⟩
    | tup xs =>
      cases hd
      simp only [Rep] at rv
      obtain ⟨a, vs, rfl, c1, c2⟩ := rv
      exact .inr (.inl ⟨a, rfl, ⟨vs, ex_t R1.gh c1⟩, h2.ret R1 _ (walk_seq c2 (fun H e => ex_t e c1) walk_tup)⟩)
    | str z =>
      cases hd
      simp only [Rep] at rv
      subst rv
      exact .inr (.inr ⟨z, rfl, h2.ret R1 _ walk_signs⟩)
    | _ => cases hd)
/-- enumerate -/
def enumD (ds : List D) : List D := ds.mapIdx fun i d => .tup [.int (i : Nat), d]
theorem enumD_get {ds : List D} {i : Nat} {e : D} (h : (enumD ds)[i]? = some e) : ∃ d, ds[i]? = some d ∧ e = .tup [.int (i : Nat), d] := by
  simp only [enumD, List.getElem?_mapIdx] at h
  cases hd : ds[i]? with
  | none => rw [hd] at h; cases h
  | some d => rw [hd] at h; cases h; exact ⟨d, rfl, rfl⟩
theorem pair_new {G1 H1 : Hp} {T : Addr} {i : Nat} {d : D} {x : V} (e : Ex G1 H1) (hT : H1 T = none) (r : Rep u G1 d x) : ∃ G', Ext G1 H1 G' (upd H1 T (.tup [.int (i : Nat), x])) ∧ Rep u G' (.tup [.int (i : Nat), d]) (.ref T) := by
  refine ⟨upd G1 T (.tup [.int (i : Nat), x]), Ext.new e hT _, ?_⟩
  simp only [Rep]
  exact ⟨T, _, rfl, upd_same, .int i, [x], rfl, by simp only [Rep], x, [], rfl, r.mono (Ext.new e hT _).g, by simp only [RepL]⟩
theorem walk_enumL {a : Addr} {ds : List D} {vs : List V} (c1 : G a = some (.lst vs)) (r : RepL u G ds vs) : WalkD u (Ite u.K a) (enumD ds) G :=
  ⟨fun i G1 H hi e1 e2 => ⟨vs, vs[i]'(by rw [← r.length]; simpa [enumD] using hi), SqL.of (e2 _ _ (e1 _ _ c1)), by simp⟩, fun G1 H e1 e2 => ⟨vs, SqL.of (e2 _ _ (e1 _ _ c1)), by simp [enumD, r.length]⟩, fun i G1 H x H' d hd e1 e2 hy => by
    obtain ⟨T, y, hx, hT, hH, hy⟩ := (hy : ∃ T y, x = .ref T ∧ H T = none ∧ H' = upd H T (.tup [.int (i : Nat), y]) ∧ ∀ xs, SqL u.K H a xs → xs[i]? = some y)
    subst hx hH
    obtain ⟨d', h1, h2⟩ := enumD_get hd
    subst h2
    obtain ⟨v, hv, rv⟩ := r.get h1
    rw [hy vs (SqL.of (e2 _ _ (e1 _ _ c1)))] at hv
    cases hv
    exact pair_new e2 hT (rv.mono e1)⟩
theorem walk_enumT {a : Addr} {ds : List D} {vs : List V} (c1 : G a = some (.tup vs)) (r : RepL u G ds vs) : WalkD u (MH.IteT u.K a) (enumD ds) G :=
  ⟨fun i G1 H hi e1 e2 => ⟨vs, vs[i]'(by rw [← r.length]; simpa [enumD] using hi), ex_t (e1.trans e2) c1, by simp⟩, fun G1 H e1 e2 => ⟨vs, ex_t (e1.trans e2) c1, by simp [enumD, r.length]⟩, fun i G1 H x H' d hd e1 e2 hy => by
    obtain ⟨T, y, hx, hT, hH, hy⟩ := (hy : ∃ T y, x = .ref T ∧ H T = none ∧ H' = upd H T (.tup [.int (i : Nat), y]) ∧ ∀ xs, SqT u.K H a xs → xs[i]? = some y)
    subst hx hH
    obtain ⟨d', h1, h2⟩ := enumD_get hd
    subst h2
    obtain ⟨v, hv, rv⟩ := r.get h1
    rw [hy vs (ex_t (e1.trans e2) c1)] at hv
    cases hv
    exact pair_new e2 hT (rv.mono e1)⟩
theorem walk_enumS {z : Str} : WalkD u (MH.IteS z) (enumD (signsD z)) G :=
  ⟨fun i G1 H hi _ _ => by show i < z.cps.size; simpa [enumD, signsD] using hi, fun G1 H _ _ => by show z.cps.size = _; simp [enumD, signsD], fun i G1 H x H' d hd e1 e2 hy => by
    obtain ⟨T, c, hx, hT, hH, hc⟩ := (hy : ∃ T c, x = .ref T ∧ H T = none ∧ H' = upd H T (.tup [.int (i : Nat), .str ⟨#[c]⟩]) ∧ z.cps[i]? = some c)
    subst hx hH
    obtain ⟨d', h1, h2⟩ := enumD_get hd
    subst h2
    simp only [signsD, List.getElem?_map, Array.getElem?_toList, hc, Option.map_some, Option.some.injEq] at h1
    subst h1
    exact pair_new e2 hT (by simp only [Rep])⟩
def enF (f : Env → Out D) : Env → Out (List D) := fun ε => (f ε).bnd fun d ε1 => match d with
  | .lst ds => .ok (enumD ds) ε1
  | .tup ds => .ok (enumD ds) ε1
  | .str z => .ok (enumD (signsD z)) ε1
  | _ => .bad
theorem ri_enum {te : TE} {f : Env → Out D} (h : RzE u W te f) : RzI u W (MH.iEnumA u.K (tCons te tNil)) (enF f) := fun B G0 G H σ ε Q R q =>
  h _ _ _ _ _ _ _ R (q.bnd.mono fun d ε1 G1 H1 e1 R1 h1 v rv => by
    cases d with
    | lst xs =>
      simp only [Rep] at rv
      obtain ⟨a, vs, rfl, c1, c2⟩ := rv
      exact .inl ⟨a, vs, rfl, SqL.of (R1.gh _ _ c1), h1.ret R1 _ (walk_enumL c1 c2)⟩
    | tup xs =>
      simp only [Rep] at rv
      obtain ⟨a, vs, rfl, c1, c2⟩ := rv
      exact .inr (.inl ⟨a, vs, rfl, ex_t R1.gh c1, h1.ret R1 _ (walk_enumT c1 c2)⟩)
    | str z =>
      simp only [Rep] at rv
      subst rv
      exact .inr (.inr ⟨z, rfl, h1.ret R1 _ walk_enumS⟩)
    | _ => exact h1.elim)
/-- range -/
def rangeD (lo : Int) (n : Nat) : List D := (List.range n).map fun (i : Nat) => D.int (lo + (i : Int))
theorem walk_rng {lo : Int} {n : Nat} : WalkD u (Itr lo n) (rangeD lo n) G :=
  ⟨fun i G1 H hi _ _ => by show i < n; simpa [rangeD] using hi, fun G1 H _ _ => by show n ≤ _; simp [rangeD], fun i G1 H x H' d hd e1 e2 hy => by
    obtain ⟨e3, hx⟩ := (hy : H' = H ∧ x = .int (lo + i))
    subst e3 hx
    simp only [rangeD, List.getElem?_map] at hd
    cases hr : (List.range n)[i]? with
    | none => rw [hr] at hd; cases hd
    | some j =>
      rw [hr] at hd
      cases hd
      have := List.getElem?_eq_some_iff.mp hr
      obtain ⟨h1, h2⟩ := this
      simp at h2
      subst h2
      exact ⟨G1, Ext.refl e2, by simp only [Rep]⟩⟩
def okR (n : Int) : Bool := decide (-(2 ^ 62) ≤ n) && decide (n < 2 ^ 62)
def rng1F (f : Env → Out D) : Env → Out (List D) := fun ε => (f ε).bnd fun d ε1 => match d with
  | .int n => if okR n = true then .ok (rangeD 0 n.toNat) ε1 else .bad
  | _ => .bad
theorem ri_rng1 {te : TE} {f : Env → Out D} (h : RzE u W te f) : RzI u W (iRng1 (tCons te tNil)) (rng1F f) := fun B G0 G H σ ε Q R q =>
  h _ _ _ _ _ _ _ R (q.bnd.mono fun d ε1 G1 H1 e1 R1 h1 v rv => by
    cases d with
    | int n =>
      simp only [Rep] at rv
      subst rv
      by_cases hn : okR n = true
      · simp only [if_pos hn] at h1
        simp only [okR, Bool.and_eq_true, decide_eq_true_eq] at hn
        exact ⟨n, rfl, hn.1, hn.2, h1.ret R1 _ walk_rng⟩
      · simp only [if_neg hn] at h1; exact h1.elim
    | _ => exact h1.elim)
def rng2F (f g : Env → Out D) : Env → Out (List D) := fun ε => (f ε).bnd fun d ε1 => (g ε1).bnd fun e ε2 => match d, e with
  | .int i, .int j => if okR i = true ∧ okR j = true then .ok (rangeD i (j - i).toNat) ε2 else .bad
  | _, _ => .bad
theorem ri_rng2 {te te' : TE} {f g : Env → Out D} (h : RzE u W te f) (h' : RzE u W te' g) : RzI u W (iRng2 (tCons te (tCons te' tNil))) (rng2F f g) := fun B G0 G H σ ε Q R q =>
  h _ _ _ _ _ _ _ R (q.bnd.mono fun d ε1 G1 H1 e1 R1 h1 v rv => h' _ _ _ _ _ _ _ R1 (h1.bnd.mono fun e ε2 G2 H2 e2 R2 h2 w rw => by
    cases d with
    | int i =>
      cases e with
      | int j =>
        simp only [Rep] at rv rw
        subst rv rw
        by_cases hn : okR i = true ∧ okR j = true
        · simp only [if_pos hn] at h2
          simp only [okR, Bool.and_eq_true, decide_eq_true_eq] at hn
          exact ⟨i, j, rfl, ⟨hn.1.1, hn.1.2, hn.2.1, hn.2.2⟩, h2.ret R2 _ walk_rng⟩
        · simp only [if_neg hn] at h2; exact h2.elim
      | _ => exact h2.elim
    | _ => exact h2.elim))
/-- *e -/
def starF (f : Env → Out D) (fr : Env → Out (List D)) : Env → Out (List D) := fun ε => (f ε).bnd fun d ε1 => match d with
  | .lst ds => (fr ε1).bnd fun xs ε2 => .ok (ds ++ xs) ε2
  | .tup ds => (fr ε1).bnd fun xs ε2 => .ok (ds ++ xs) ε2
  | .str z => if z.cps.size ≤ 100000 then (fr ε1).bnd fun xs ε2 => .ok (signsD z ++ xs) ε2 else .bad
  | _ => .bad
theorem repL_signs {z : Str} : RepL u G (signsD z) (MH.signs z) := by
  unfold signsD MH.signs
  generalize z.cps.toList = l
  induction l with
  | nil => simp [RepL]
  | cons c l ih => exact ⟨_, _, rfl, by simp only [Rep], ih⟩
theorem rz_star {te : TE} {t : TA} {f : Env → Out D} {fr : Env → Out (List D)} (h : RzE u W te f) (hr : RzA u W t fr) : RzA u W (MH.tStarA u.K te t) (starF f fr) := fun B G0 G H σ ε Q R q =>
  h _ _ _ _ _ _ _ R (q.bnd.mono fun d ε1 G1 H1 e1 R1 h1 v rv => by
    cases d with
    | lst xs =>
      simp only [Rep] at rv
      obtain ⟨a, vs, rfl, c1, c2⟩ := rv
      exact .inl ⟨a, vs, rfl, .inr (SqL.of (R1.gh _ _ c1)), hr _ _ _ _ _ _ _ R1 (h1.bnd.mono fun ys ε2 G2 H2 e2 R2 h2 ws rws => h2.ret R2 _ ((RepL.mono e2 _ c2).append rws))⟩
    | tup xs =>
      simp only [Rep] at rv
      obtain ⟨a, vs, rfl, c1, c2⟩ := rv
      exact .inl ⟨a, vs, rfl, .inl (ex_t R1.gh c1), hr _ _ _ _ _ _ _ R1 (h1.bnd.mono fun ys ε2 G2 H2 e2 R2 h2 ws rws => h2.ret R2 _ ((RepL.mono e2 _ c2).append rws))⟩
    | str z =>
      simp only [Rep] at rv
      subst rv
      by_cases hz : z.cps.size ≤ 100000
      · simp only [if_pos hz] at h1
        exact .inr ⟨z, rfl, sz_of hz, hr _ _ _ _ _ _ _ R1 (h1.bnd.mono fun ys ε2 G2 H2 e2 R2 h2 ws rws => h2.ret R2 _ (repL_signs.append rws))⟩
      · simp only [if_neg hz] at h1; exact h1.elim
    | _ => exact h1.elim)
end
end ML
end
section
set_option Elab.async false
set_option linter.all false
set_option maxRecDepth 100000
set_option maxHeartbeats 2000000
set_option autoImplicit false
namespace MH
open PySem PySem.Spec PyProof.Rows L2
section
variable {X : Cx}
def rIntOp (g : Int → Int → V) : R2 := rI0 g
/-- x + y: ints, texts, tuples, lists -/
def rAddA (K : PySem.W.Frag) : R2 := fun x y H Q => rI0 (fun i j => .int (i + j)) x y H Q ∨ (∃ i j, x = .str i ∧ y = .str j ∧ i.length + j.length ≤ sizeLine ∧ Q (.str (i ++ j)) H) ∨ rCatA K x y H Q ∨ rCat x y H Q
theorem op_addA : OpR X (binaryOp .Add) (rAddA X.K) := op_add.or (op_add_str.or (op_catA.or op_cat))
/-- a text n times -/
def rRepS : R2 := fun x y H Q => ∃ (z : Str) (n : Int), x = .str z ∧ y = .int n ∧ -1000 ≤ n ∧ n ≤ 1000 ∧ z.length ≤ 1000 ∧ Q (.str ⟨(List.replicate n.toNat z.cps).foldl (· ++ ·) #[]⟩) H
theorem rep_size (z : Array Nat) : ∀ (n : Nat) (a : Array Nat), ((List.replicate n z).foldl (· ++ ·) a).size = a.size + n * z.size
  | 0, a => by simp
  | n + 1, a => by rw [List.replicate_succ, List.foldl_cons, rep_size z n (a ++ z), Array.size_append, Nat.succ_mul]; omega
theorem rep_nil : ∀ (n : Nat), (List.replicate n (#[] : Array Nat)).foldl (· ++ ·) #[] = #[]
  | 0 => rfl
  | n + 1 => by rw [List.replicate_succ, List.foldl_cons]; exact rep_nil n
theorem op_repS : OpR X (binaryOp .Mult) rRepS := by
  intro pins s σ H x y v u Q I rx ry h
  obtain ⟨z, n, rfl, rfl, h2, h3, h5, q⟩ := h
  obtain ⟨t, rfl⟩ := rx
  obtain ⟨t', rfl⟩ := ry
  have hz : z.length * n.toNat ≤ 1000000 := by
    have : n.toNat ≤ 1000 := by omega
    calc z.length * n.toNat ≤ 1000 * 1000 := Nat.mul_le_mul h5 this
      _ = 1000000 := rfl
  refine PySem.P.mul_str ?_ ?_ ?_ ?_
  · rw [decide_eq_false (by omega), decide_eq_false (by omega)]; rfl
  · intro h1 _ hc
    have h9 : (1000 : Int) < (2 ^ 63 - 1) / n := by
      rw [Int.lt_iff_add_one_le, Int.le_ediv_iff_mul_le (by omega)]
      omega
    omega
  · intro _ _
    unfold Builtin.Str.tooLong
    rw [sizeLine_eq]
    simp; omega
  · by_cases h0 : n < 1
    · rw [if_pos h0]
      have e : n.toNat = 0 := by omega
      rw [e] at q
      exact ⟨by decide, .str _, H, I.tok _, ⟨_, rfl⟩, q⟩
    · rw [if_neg h0]
      by_cases h1 : (n == 1 || z.length == 0) = true
      · rw [if_pos h1]
        have e : (⟨(List.replicate n.toNat z.cps).foldl (· ++ ·) #[]⟩ : Str) = z := by
          simp only [Bool.or_eq_true, beq_iff_eq] at h1
          rcases h1 with h1 | h1
          · subst h1
            simp
          · have hz : z.cps = #[] := Array.eq_empty_of_size_eq_zero h1
            rw [hz, rep_nil]
            cases z
            simp only at hz
            rw [hz]
        rw [e] at q
        exact ⟨.str z, H, I, ⟨_, rfl⟩, q⟩
      · rw [if_neg h1]
        exact ⟨by
          show (⟨(List.replicate n.toNat z.cps).foldl (· ++ ·) #[]⟩ : Str).length ≤ sizeLine
          show ((List.replicate n.toNat z.cps).foldl (· ++ ·) #[]).size ≤ sizeLine
          rw [rep_size, sizeLine_eq]
          have : z.cps.size = z.length := rfl
          rw [this, Nat.mul_comm]
          simp; omega, .str _, H, I.tok _, ⟨_, rfl⟩, q⟩
/-- a tuple once, or an empty one: the same object -/
theorem tuple_mulS (l : Addr) (items : Array Value) (n : Nat) (dd : Option Addr) (sl : Array (Option Value)) (x : Int) (u : Tok) (c0 : (decide (x < -(2 ^ 63)) || decide (x ≥ 2 ^ 63)) = false) (c1 : (items.isEmpty || x == 1) = true) :
    Meets (Builtin.«tuple.__mul__» ⟨[.ref l, .int x u], []⟩) (fun _ R s => s.heap.get? l = some { cls := .type "tuple", dict := dd, data := .seq items n, slots := sl } ∧ R (.ok (.ret (Value.ref l))) s) :=
  .of_wp fun prog w A R s h => by
    obtain ⟨hp, g, d, tk, os⟩ := s
    obtain ⟨hl, h⟩ := h
    have f1 := AutoSeq1.idx_int
    wp_walk using wpAny_loadPart' hl
    repeat (first
      | (refine wpAny_ite_false (decide_eq_false (by rw [c0]; exact Bool.false_ne_true)) ?_; wp_walk using wpAny_loadPart' hl)
      | (refine wpAny_ite_true (decide_eq_true c1) ?_; wp_walk using wpAny_loadPart' hl))
    exact ⟨_, rfl, h⟩
/-- a tuple no times -/
theorem tuple_mul0 (l : Addr) (items : Array Value) (n : Nat) (dd : Option Addr) (sl : Array (Option Value)) (x : Int) (u : Tok) (c0 : (decide (x < -(2 ^ 63)) || decide (x ≥ 2 ^ 63)) = false) (c1 : (items.isEmpty || x == 1) = false) (c2 : (decide (x ≤ 0) || items.isEmpty) = true) :
    Meets (Builtin.«tuple.__mul__» ⟨[.ref l, .int x u], []⟩) (fun _ R s => s.heap.get? l = some { cls := .type "tuple", dict := dd, data := .seq items n, slots := sl } ∧
      R (.ok (.ret (Value.ref s.heap.objs.size))) { s with heap := s.heap.push { cls := Value.type "tuple", data := Data.seq #[] }, toks := s.toks }) :=
  .of_wp fun prog w A R s h => by
    obtain ⟨hp, g, d, tk, os⟩ := s
    obtain ⟨hl, h⟩ := h
    have f1 := AutoSeq1.idx_int
    wp_walk using wpAny_loadPart' hl
    repeat (first
      | (refine wpAny_ite_false (decide_eq_false (by rw [c0]; exact Bool.false_ne_true)) ?_; wp_walk using wpAny_loadPart' hl)
      | (refine wpAny_ite_false (decide_eq_false (by rw [c1]; exact Bool.false_ne_true)) ?_; wp_walk using wpAny_loadPart' hl)
      | (refine wpAny_ite_true (decide_eq_true c2) ?_; wp_walk using wpAny_loadPart' hl))
    exact ⟨_, rfl, h⟩
def rRepT1 (K : PySem.W.Frag) : R2 := fun x y H Q => ∃ l k xs, x = .ref l ∧ y = .int k ∧ SqT K H l xs ∧ (xs = [] ∨ k = 1) ∧ -1000 ≤ k ∧ k ≤ 1000 ∧ Q (.ref l) H
theorem op_repT1 : OpR X (binaryOp .Mult) (rRepT1 X.K) := by
  intro pins s σ H x y v u Q I rx ry h
  obtain ⟨l, k, xs, rfl, rfl, hT, hne, h1, h2, q⟩ := h
  cases rx
  obtain ⟨t, rfl⟩ := ry
  obtain ⟨its, r, ⟨⟨cls, dd, data, sl⟩, ho, hc, n, hd⟩, hs⟩ := I.tuple hT
  simp only at hc hd
  subst hc hd
  have hle : its.length = xs.length := r.length.symm
  have c0 : (decide (k < -(2 ^ 63)) || decide (k ≥ 2 ^ 63)) = false := by
    rw [decide_eq_false (by omega), decide_eq_false (by omega)] <;> rfl
  have c1 : (its.toArray.isEmpty || k == 1) = true := by
    rcases hne with rfl | rfl
    · have : its = [] := List.eq_nil_of_length_eq_zero hle
      subst this; rfl
    · simp
  exact wpAny_binaryOp_repeat_ref (T := "tuple") (U := "int") (by decide) ⟨_, ho, rfl⟩ (fun s' => typeIs_int s' k t) noFill_tuple_mul F.fills_int_mul F.slot_int_rmul repeat_tuple F.slot_int_index.lookup
    (call_meets F.slot_int_rmul (typeIs_int s k t) F.entry_int_rmul (F.args_int_rmul_2 _ _) (int_rmul_tuple k t l its.toArray n dd sl)
      ⟨ho, rfl, ⟨_, ho, rfl⟩, call_meets F.slot_tuple_mul ⟨_, ho, rfl⟩ F.entry_tuple_mul (F.args_tuple_mul_2 _ _) (tuple_mulS l its.toArray n dd sl k t c0 c1) ⟨ho, .ref l, H, I, rfl, q⟩⟩)
def rRepT0 (K : PySem.W.Frag) : R2 := fun x y H Q => ∃ l k xs, x = .ref l ∧ y = .int k ∧ SqT K H l xs ∧ xs ≠ [] ∧ -1000 ≤ k ∧ k ≤ 0 ∧ ∀ p, H p = none → Q (.ref p) (upd H p (.tup []))
theorem op_repT0 : OpR X (binaryOp .Mult) (rRepT0 X.K) := by
  intro pins s σ H x y v u Q I rx ry h
  obtain ⟨l, k, xs, rfl, rfl, hT, hne, h1, h2, q⟩ := h
  cases rx
  obtain ⟨t, rfl⟩ := ry
  obtain ⟨its, r, ⟨⟨cls, dd, data, sl⟩, ho, hc, n, hd⟩, hs⟩ := I.tuple hT
  simp only at hc hd
  subst hc hd
  have hle : its.length = xs.length := r.length.symm
  have hn : its ≠ [] := fun e => hne (by
    rw [e] at hle
    exact List.eq_nil_of_length_eq_zero hle.symm)
  have hi : its.toArray.isEmpty = false := by
    cases its with
    | nil => exact absurd rfl hn
    | cons a b => rfl
  have c0 : (decide (k < -(2 ^ 63)) || decide (k ≥ 2 ^ 63)) = false := by
    rw [decide_eq_false (by omega), decide_eq_false (by omega)] <;> rfl
  have c1 : (its.toArray.isEmpty || k == 1) = false := by
    rw [hi, Bool.false_or]
    exact beq_eq_false_iff_ne.mpr (by omega)
  have c2 : (decide (k ≤ 0) || its.toArray.isEmpty) = true := by
    rw [decide_eq_true h2]; rfl
  refine wpAny_binaryOp_repeat_ref (T := "tuple") (U := "int") (by decide) ⟨_, ho, rfl⟩ (fun s' => typeIs_int s' k t) noFill_tuple_mul F.fills_int_mul F.slot_int_rmul repeat_tuple F.slot_int_index.lookup
    (call_meets F.slot_int_rmul (typeIs_int s k t) F.entry_int_rmul (F.args_int_rmul_2 _ _) (int_rmul_tuple k t l its.toArray n dd sl)
      ⟨ho, rfl, ⟨_, ho, rfl⟩, call_meets F.slot_tuple_mul ⟨_, ho, rfl⟩ F.entry_tuple_mul (F.args_tuple_mul_2 _ _) (tuple_mul0 l its.toArray n dd sl k t c0 c1 c2) ⟨ho, ?_⟩⟩)
  refine ⟨.ref s.heap.objs.size, _, I.laid (t' := s.toks) (o := .tup []) (fun b ob q => Heap.get?_push_of_some _ q) (Nat.le_refl _) ?_, rfl, q _ (I.hok.fresh (Nat.le_refl _))⟩
  exact ⟨by simp, [], .nil, IsTup.new _ _⟩
def rMulA (K : PySem.W.Frag) : R2 := fun x y H Q => rI CMul (fun i j => .int (i * j)) x y H Q ∨ rRepT K x y H Q ∨ rRep x y H Q ∨ rRepS x y H Q ∨ rRepT1 K x y H Q ∨ rRepT0 K x y H Q
theorem op_mulA : OpR X (binaryOp .Mult) (rMulA X.K) := op_mul.or (op_repT.or (op_rep.or (op_repS.or (op_repT1.or op_repT0))))
/-- x in y: texts; data in a tuple of flat items; data in a list -/
def rInT (K : PySem.W.Frag) : R2 := fun x y H Q => ∃ d ds, Dp K H x d ∧ Dp K H y (.tuple ds) ∧ SeqAt.shaped d = true ∧ SeqAt.shaped (.tuple ds) = true ∧ Q (.bl (ds.any fun z => PyData.eqv z d)) H
def rNotInT (K : PySem.W.Frag) : R2 := fun x y H Q => ∃ d ds, Dp K H x d ∧ Dp K H y (.tuple ds) ∧ SeqAt.shaped d = true ∧ SeqAt.shaped (.tuple ds) = true ∧ Q (.bl (!ds.any fun z => PyData.eqv z d)) H
theorem op_inT (hu : X.A.units + 65 < cLine) : OpR X (compareOp .In) (rInT X.K) := by
  intro pins s σ H x y v u Q I rx ry h
  obtain ⟨d, ds, hd, he, sd, se, q⟩ := h
  obtain ⟨as, r1⟩ := Dp.reads I d x v hd rx
  obtain ⟨bs, r2⟩ := Dp.reads I (.tuple ds) y u he ry
  exact SeqAt.in_tuple_data r2 r1 (PyData.plainAll_of_canLay0 _ (SeqAt.canLay_of_shaped se)) (PyData.plain_of_canLay0 _ (SeqAt.canLay_of_shaped sd)) (room_in_shaped sd hu) ⟨.bl _, H, I, rfl, q⟩
theorem op_notInT (hu : X.A.units + 65 < cLine) : OpR X (compareOp .NotIn) (rNotInT X.K) := by
  intro pins s σ H x y v u Q I rx ry h
  obtain ⟨d, ds, hd, he, sd, se, q⟩ := h
  obtain ⟨as, r1⟩ := Dp.reads I d x v hd rx
  obtain ⟨bs, r2⟩ := Dp.reads I (.tuple ds) y u he ry
  exact SeqAt.notIn_tuple_data r2 r1 (PyData.plainAll_of_canLay0 _ (SeqAt.canLay_of_shaped se)) (PyData.plain_of_canLay0 _ (SeqAt.canLay_of_shaped sd)) (room_in_shaped sd hu) ⟨.bl _, H, I, rfl, q⟩
def rInA (K : PySem.W.Frag) : R2 := fun x y H Q => (∃ i j, x = .str i ∧ y = .str j ∧ Q (.bl (!(Builtin.Str.occurrences j i 0 j.length 1).isEmpty)) H) ∨ rIn K false x y H Q ∨ rInD K x y H Q ∨ rInT K x y H Q
def rNotInA (K : PySem.W.Frag) : R2 := fun x y H Q => (∃ i j, x = .str i ∧ y = .str j ∧ Q (.bl (!(!(Builtin.Str.occurrences j i 0 j.length 1).isEmpty))) H) ∨ rIn K true x y H Q ∨ rNotInD K x y H Q ∨ rNotInT K x y H Q
theorem op_inA {k : Nat} (hr : Room k X.A) : OpR X (compareOp .In) (rInA X.K) := op_in_str.or (op_in_seq.or ((op_inD (by have := hr.un; omega)).or (op_inT (by have := hr.un; omega))))
theorem op_notInA {k : Nat} (hr : Room k X.A) : OpR X (compareOp .NotIn) (rNotInA X.K) := op_notin_str.or (op_notIn_seq.or ((op_notInD (by have := hr.un; omega)).or (op_notInT (by have := hr.un; omega))))
def rSlAll (K : PySem.W.Frag) : V → Option Int → Option Int → Hp → VK → Prop := fun x lo hi H Q => rSlL K x lo hi H Q ∨ rSlA K x lo hi H Q ∨ rSlS x lo hi H Q
theorem sl_all : SlR X (rSlAll X.K) := sl_list.or (sl_tupA.or sl_str)
end
end MH
namespace ML
open PySem PySem.Spec PyProof.Rows L2
section
variable {u : Uv} {W : WX} {b : List Nat} {B G0 G G' H H' : Hp} {σ : L2.St} {ε : Env}
abbrev Kon (u : Uv) (z : D) (G H : Hp) (Q : VK) : Prop := ∀ v G' H', Ex G G' → Ex H H' → Ex G' H' → Nw H G G' → Rep u G' z v → Q v H'
theorem Kon.ret {z : D} {Q : VK} {v : V} (k : Kon u z G H Q) (e : Ex G H) (r : Rep u G z v) : Q v H := k v G H (Ex.refl _) (Ex.refl _) e Nw.refl r
theorem Kon.new {z : D} {Q : VK} {v : V} {p : Addr} {o : HO} (k : Kon u z G H Q) (e : Ex G H) (hp : H p = none) (r : Rep u (upd G p o) z v) : Q v (upd H p o) :=
  k v (upd G p o) (upd H p o) (Ex.upd (e.free hp)) (Ex.upd hp) e.both (Nw.of fun _ _ h => upd_ne (ne_of_none h hp)) r
theorem rep_int {i : Int} {v : V} : Rep u G (.int i) v ↔ v = .int i := by simp only [Rep]
theorem rep_str {i : Str} {v : V} : Rep u G (.str i) v ↔ v = .str i := by simp only [Rep]
theorem rep_bl {i : Bool} {v : V} : Rep u G (.bl i) v ↔ v = .bl i := by simp only [Rep]
theorem rep_non {v : V} : Rep u G .non v ↔ v = .non := by simp only [Rep]
theorem rep_tup {ds : List D} {v : V} : Rep u G (.tup ds) v ↔ ∃ a vs, v = .ref a ∧ G a = some (.tup vs) ∧ RepL u G ds vs := by simp only [Rep]
theorem rep_lst {ds : List D} {v : V} : Rep u G (.lst ds) v ↔ ∃ a vs, v = .ref a ∧ G a = some (.lst vs) ∧ RepL u G ds vs := by simp only [Rep]
theorem rep_scr {ns : List Int} {v : V} : Rep u G (.scr ns) v ↔ ∃ a, v = .ref a ∧ SqL u.K G a (ns.map V.int) := by simp only [Rep]
/-! ### + - * // % ** -/
def addD : D → D → Option D
  | .int i, .int j => some (.int (i + j))
  | .str a, .str b => if a.length + b.length ≤ 100000 then some (.str (a ++ b)) else none
  | .tup xs, .tup ys => if xs.length + ys.length ≤ 100000 then some (.tup (xs ++ ys)) else none
  | .lst xs, .lst ys => if xs.length + ys.length ≤ 100000 then some (.lst (xs ++ ys)) else none
  | _, _ => none
theorem rr_add : RzR u (MH.rAddA u.K) addD := fun x y d e z G H Q rx ry hz eg k => by
  cases d <;> cases e <;> simp only [addD] at hz <;> first | (cases hz; done) | skip
  · cases hz
    exact .inl ⟨_, _, rep_int.mp rx, rep_int.mp ry, Kon.ret k eg (rep_int.mpr rfl)⟩
  · split at hz
    · cases hz
      exact .inr (.inl ⟨_, _, rep_str.mp rx, rep_str.mp ry, sz_of (by assumption), Kon.ret k eg (rep_str.mpr rfl)⟩)
    · cases hz
  · rename_i xs ys
    split at hz
    · cases hz
      rename_i hl
      obtain ⟨a, vs, rfl, a1, a2⟩ := rep_tup.mp rx
      obtain ⟨b, ws, rfl, b1, b2⟩ := rep_tup.mp ry
      refine .inr (.inr (.inl ⟨a, b, vs, ws, rfl, rfl, ex_t eg a1, ex_t eg b1, sz_of (by rw [← a2.length, ← b2.length]; exact hl), fun h0 => ?_, fun h1 h0 => ?_, fun h1 h2 p hp => ?_⟩))
      · subst h0
        have : xs = [] := List.eq_nil_of_length_eq_zero a2.length
        subst this
        exact Kon.ret k eg (rep_tup.mpr ⟨b, ws, rfl, b1, b2⟩)
      · subst h0
        have : ys = [] := List.eq_nil_of_length_eq_zero b2.length
        subst this
        exact Kon.ret k eg (rep_tup.mpr ⟨a, vs, rfl, a1, by rw [List.append_nil]; exact a2⟩)
      · exact Kon.new k eg hp (rep_tup.mpr ⟨p, vs ++ ws, rfl, upd_same, (RepL.mono (Ex.upd (eg.free hp)) _ a2).append (RepL.mono (Ex.upd (eg.free hp)) _ b2)⟩)
    · cases hz
  · rename_i xs ys
    split at hz
    · cases hz
      rename_i hl
      obtain ⟨a, vs, rfl, a1, a2⟩ := rep_lst.mp rx
      obtain ⟨b, ws, rfl, b1, b2⟩ := rep_lst.mp ry
      refine .inr (.inr (.inr ⟨a, b, vs, ws, rfl, rfl, eg _ _ a1, eg _ _ b1, sz_of (by rw [← a2.length, ← b2.length]; exact hl), fun p hp => ?_⟩))
      exact Kon.new k eg hp (rep_lst.mpr ⟨p, vs ++ ws, rfl, upd_same, (RepL.mono (Ex.upd (eg.free hp)) _ a2).append (RepL.mono (Ex.upd (eg.free hp)) _ b2)⟩)
    · cases hz
def intOp (C : Int → Int → Bool) (f : Int → Int → D) : D → D → Option D
  | .int i, .int j => if C i j = true then some (f i j) else none
  | _, _ => none
theorem rr_int0 {g : Int → Int → V} {f : Int → Int → D} (h : ∀ i j G, Rep u G (f i j) (g i j)) : RzR u (rI0 g) (intOp (fun _ _ => true) f) := fun x y d e z G H Q rx ry hz eg k => by
  cases d <;> cases e <;> simp only [intOp] at hz <;> first | (cases hz; done) | skip
  simp only [if_true] at hz
  cases hz
  exact ⟨_, _, rep_int.mp rx, rep_int.mp ry, Kon.ret k eg (h _ _ _)⟩
theorem rr_intC {Cp : Int → Int → Prop} {C : Int → Int → Bool} {g : Int → Int → V} {f : Int → Int → D} (hC : ∀ i j, C i j = true → Cp i j) (h : ∀ i j G, Rep u G (f i j) (g i j)) : RzR u (rI Cp g) (intOp C f) := fun x y d e z G H Q rx ry hz eg k => by
  cases d <;> cases e <;> simp only [intOp] at hz <;> first | (cases hz; done) | skip
  split at hz
  · cases hz
    exact ⟨_, _, rep_int.mp rx, rep_int.mp ry, hC _ _ (by assumption), Kon.ret k eg (h _ _ _)⟩
  · cases hz
def subD : D → D → Option D := intOp (fun _ _ => true) fun i j => .int (i - j)
theorem rr_sub : RzR u (rI0 fun i j => .int (i - j)) subD := rr_int0 fun _ _ _ => rep_int.mpr rfl
def fdivD : D → D → Option D := intOp (fun _ j => decide (0 < j) && decide (j < 1073741824)) fun i j => .int (i / j)
theorem rr_fdiv : RzR u (rI CDiv fun i j => .int (i / j)) fdivD := rr_intC (fun i j h => by simpa [CDiv] using h) fun _ _ _ => rep_int.mpr rfl
def modD : D → D → Option D := intOp (fun _ j => decide (0 < j)) fun i j => .int (i % j)
theorem rr_mod : RzR u (rI (fun _ j => 0 < j) fun i j => .int (i % j)) modD := rr_intC (fun i j h => by simpa using h) fun _ _ _ => rep_int.mpr rfl
def powD : D → D → Option D := intOp (fun i j => decide (0 ≤ j) && (decide (j ≤ 1000) && decide (i.natAbs < 1000))) fun i j => .int (i ^ j.toNat)
theorem rr_pow : RzR u (rI CPow fun i j => .int (i ^ j.toNat)) powD := rr_intC (fun i j h => by
  simp only [Bool.and_eq_true, decide_eq_true_eq] at h
  exact ⟨h.1, by omega, Nat.lt_trans h.2.2 (by decide)⟩) fun _ _ _ => rep_int.mpr rfl
def negD : D → Option D
  | .int i => some (.int (-i))
  | _ => none
theorem ru_neg : RzU u (rU fun i => .int (-i)) negD := fun x d z G H Q rx hz eg k => by
  cases d <;> simp only [negD] at hz <;> first | (cases hz; done) | skip
  cases hz
  exact ⟨_, rep_int.mp rx, Kon.ret k eg (rep_int.mpr rfl)⟩
theorem repL_rep {xs : List D} {vs : List V} (r : RepL u G xs vs) : ∀ n : Nat, RepL u G (List.replicate n xs).flatten (List.replicate n vs).flatten
  | 0 => by simp [RepL]
  | n + 1 => by simp only [List.replicate_succ, List.flatten_cons]; exact r.append (repL_rep r n)
def mulD : D → D → Option D
  | .int i, .int j => if (decide (i.natAbs < 18446744073709551616) || decide (j.natAbs < 18446744073709551616)) = true then some (.int (i * j)) else none
  | .tup xs, .int n => if xs.length ≤ 1000 ∧ -1000 ≤ n ∧ n ≤ 1000 then some (.tup (List.replicate n.toNat xs).flatten) else none
  | .lst xs, .int n => if -1000 ≤ n ∧ n ≤ 100000 ∧ xs.length * n.toNat ≤ 100000 then some (.lst (List.replicate n.toNat xs).flatten) else none
  | .str z, .int n => if z.length ≤ 1000 ∧ -1000 ≤ n ∧ n ≤ 1000 then some (.str ⟨(List.replicate n.toNat z.cps).foldl (· ++ ·) #[]⟩) else none
  | _, _ => none
theorem rr_mul : RzR u (MH.rMulA u.K) mulD := fun x y d e z G H Q rx ry hz eg k => by
  cases d <;> cases e <;> simp only [mulD] at hz <;> first | (cases hz; done) | skip
  · split at hz
    · cases hz
      rename_i i j hc
      refine .inl ⟨_, _, rep_int.mp rx, rep_int.mp ry, ?_, Kon.ret k eg (rep_int.mpr rfl)⟩
      simp only [Bool.or_eq_true, decide_eq_true_eq] at hc
      rcases hc with hc | hc
      · exact .inl (by omega)
      · exact .inr (by omega)
    · cases hz
  · split at hz
    · cases hz
      rename_i zz n hc
      exact .inr (.inr (.inr (.inl ⟨zz, n, rep_str.mp rx, rep_int.mp ry, hc.2.1, hc.2.2, hc.1, Kon.ret k eg (rep_str.mpr rfl)⟩)))
    · cases hz
  · split at hz
    · cases hz
      rename_i xs n hc
      obtain ⟨a, vs, rfl, a1, a2⟩ := rep_tup.mp rx
      have hl := a2.length
      by_cases h1 : xs = [] ∨ n = 1
      · have e : (List.replicate n.toNat xs).flatten = xs := by
          rcases h1 with rfl | rfl
          · simp
          · simp
        rw [e] at k
        exact .inr (.inr (.inr (.inr (.inl ⟨a, n, vs, rfl, rep_int.mp ry, ex_t eg a1, by
          rcases h1 with rfl | h1
          · exact .inl (List.eq_nil_of_length_eq_zero hl.symm)
          · exact .inr h1, hc.2.1, hc.2.2, Kon.ret k eg rx⟩))))
      · have hv : vs ≠ [] := fun h => by
          rw [h] at hl
          exact h1 (.inl (List.eq_nil_of_length_eq_zero hl))
        by_cases h2 : 2 ≤ n
        · refine .inr (.inl ⟨a, n, vs, rfl, rep_int.mp ry, ex_t eg a1, hv, h2, hc.2.2, by omega, fun p hp => ?_⟩)
          exact Kon.new k eg hp (rep_tup.mpr ⟨p, _, rfl, upd_same, RepL.mono (Ex.upd (eg.free hp)) _ (repL_rep a2 _)⟩)
        · have hn : n ≤ 0 := by
            have : n ≠ 1 := fun q => h1 (.inr q)
            omega
          have e0 : n.toNat = 0 := by omega
          rw [e0] at k
          refine .inr (.inr (.inr (.inr (.inr ⟨a, n, vs, rfl, rep_int.mp ry, ex_t eg a1, hv, hc.2.1, hn, fun p hp => ?_⟩))))
          exact Kon.new k eg hp (rep_tup.mpr ⟨p, _, rfl, upd_same, by simp [RepL]⟩)
    · cases hz
  · split at hz
    · cases hz
      rename_i xs n hc
      obtain ⟨a, vs, rfl, a1, a2⟩ := rep_lst.mp rx
      have hl := a2.length
      refine .inr (.inr (.inl ⟨a, n, vs, rfl, rep_int.mp ry, eg _ _ a1, by omega, by omega, ?_, fun p hp => ?_⟩))
      · rw [sizeLine_eq, ← hl]; omega
      · exact Kon.new k eg hp (rep_lst.mpr ⟨p, _, rfl, upd_same, RepL.mono (Ex.upd (eg.free hp)) _ (repL_rep a2 _)⟩)
    · cases hz
/-! ### comparisons -/
def cmpD (f : Int → Int → Bool) : D → D → Option D := intOp (fun _ _ => true) fun i j => .bl (f i j)
theorem rr_lt : RzR u (rI0 fun i j => .bl (decide (i < j))) (cmpD fun i j => decide (i < j)) := rr_int0 fun _ _ _ => rep_bl.mpr rfl
theorem rr_le : RzR u (rI0 fun i j => .bl (decide (i ≤ j))) (cmpD fun i j => decide (i ≤ j)) := rr_int0 fun _ _ _ => rep_bl.mpr rfl
theorem rr_gt : RzR u (rI0 fun i j => .bl (decide (j < i))) (cmpD fun i j => decide (j < i)) := rr_int0 fun _ _ _ => rep_bl.mpr rfl
theorem rr_ge : RzR u (rI0 fun i j => .bl (decide (j ≤ i))) (cmpD fun i j => decide (j ≤ i)) := rr_int0 fun _ _ _ => rep_bl.mpr rfl
mutual
def toPy : D → PyData
  | .non => .none
  | .bl b => .bool b
  | .int i => .int i
  | .str s => .str s
  | .tup xs => .tuple (toPyL xs)
  | .lst xs => .list (toPyL xs)
  | .scr ns => .list (ns.map .int)
  | _ => .dict []
def toPyL : List D → List PyData
  | [] => []
  | x :: xs => toPy x :: toPyL xs
end
mutual
theorem rep_dp : ∀ (d : D) {v : V}, PyData.canLay0 (toPy d) = true → Rep u G d v → Ex G H → Dp u.K H v (toPy d)
  | .non, v, _, r, _ => by rw [rep_non.mp r]; exact .non
  | .bl b, v, _, r, _ => by rw [rep_bl.mp r]; exact .bl b
  | .int b, v, _, r, _ => by rw [rep_int.mp r]; exact .int b
  | .str b, v, _, r, _ => by rw [rep_str.mp r]; exact .str b
  | .tup xs, v, h, r, e => by
    obtain ⟨a, vs, rfl, a1, a2⟩ := rep_tup.mp r
    simp only [toPy, PyData.canLay0] at h ⊢
    exact .tup (ex_t e a1) (rep_dpL xs h a2 e)
  | .lst xs, v, h, r, e => by
    obtain ⟨a, vs, rfl, a1, a2⟩ := rep_lst.mp r
    simp only [toPy, PyData.canLay0] at h ⊢
    exact .lst (SqL.of (e _ _ a1)) (rep_dpL xs h a2 e)
  | .scr ns, v, h, r, e => by
    obtain ⟨a, rfl, a1⟩ := rep_scr.mp r
    simp only [toPy]
    refine .lst (ex_l e a1) ?_
    clear a1 r h
    induction ns with
    | nil => exact .nil
    | cons n ns ih => exact .cons (.int n) ih
  | .dk _ _, v, h, _, _ => by simp [toPy, PyData.canLay0] at h
  | .dt _ _, v, h, _, _ => by simp [toPy, PyData.canLay0] at h
  | .obj _ _ _, v, h, _, _ => by simp [toPy, PyData.canLay0] at h
theorem rep_dpL : ∀ (ds : List D) {vs : List V}, PyData.canLayAll0 (toPyL ds) = true → RepL u G ds vs → Ex G H → DpAll u.K H vs (toPyL ds)
  | [], vs, _, r, _ => by simp only [RepL] at r; subst r; exact .nil
  | d :: ds, vs, h, r, e => by
    simp only [RepL] at r
    obtain ⟨v, rr, rfl, r1, r2⟩ := r
    simp only [toPyL, PyData.canLayAll0, Bool.and_eq_true] at h ⊢
    exact .cons (rep_dp d h.1 r1 e) (rep_dpL ds h.2 r2 e)
end
def okPy (d : D) : Bool := SeqAt.shaped (toPy d)
def eqB (d e : D) : Bool := PyData.eqv (toPy d) (toPy e)
def eqD (d e : D) : Option D := if (okPy d && okPy e) = true then some (.bl (eqB d e)) else none
def neD (d e : D) : Option D := if (okPy d && okPy e) = true then some (.bl (!eqB d e)) else none
theorem rr_eq : RzR u (rEqD u.K) eqD := fun x y d e z G H Q rx ry hz eg k => by
  unfold eqD at hz
  split at hz
  · cases hz
    rename_i hc
    rw [Bool.and_eq_true] at hc
    exact ⟨toPy d, toPy e, rep_dp d (SeqAt.canLay_of_shaped hc.1) rx eg, rep_dp e (SeqAt.canLay_of_shaped hc.2) ry eg, hc.1, hc.2, Kon.ret k eg (rep_bl.mpr rfl)⟩
  · cases hz
theorem rr_ne : RzR u (rNeD u.K) neD := fun x y d e z G H Q rx ry hz eg k => by
  unfold neD at hz
  split at hz
  · cases hz
    rename_i hc
    rw [Bool.and_eq_true] at hc
    exact ⟨toPy d, toPy e, rep_dp d (SeqAt.canLay_of_shaped hc.1) rx eg, rep_dp e (SeqAt.canLay_of_shaped hc.2) ry eg, hc.1, hc.2, Kon.ret k eg (rep_bl.mpr rfl)⟩
  · cases hz
def isNon : D → Bool
  | .non => true
  | _ => false
theorem non_dec {d : D} {v : V} (r : Rep u G d v) : decide (v = .non) = isNon d := by
  cases d with
  | non => rw [rep_non.mp r]; rfl
  | bl _ => rw [rep_bl.mp r]; rfl
  | int _ => rw [rep_int.mp r]; rfl
  | str _ => rw [rep_str.mp r]; rfl
  | tup _ => obtain ⟨a, vs, rfl, _⟩ := rep_tup.mp r; rfl
  | lst _ => obtain ⟨a, vs, rfl, _⟩ := rep_lst.mp r; rfl
  | scr _ => obtain ⟨a, rfl, _⟩ := rep_scr.mp r; rfl
  | dk _ _ => simp only [Rep] at r; obtain ⟨a, vs, rfl, _⟩ := r; rfl
  | dt _ _ => simp only [Rep] at r; obtain ⟨a, vs, rfl, _⟩ := r; rfl
  | obj _ _ _ => simp only [Rep] at r; obtain ⟨a, dx, vs, rfl, _⟩ := r; rfl
def isD (d e : D) : Option D := if isNon e = true then some (.bl (isNon d)) else none
def isntD (d e : D) : Option D := if isNon e = true then some (.bl (!isNon d)) else none
theorem rr_is : RzR u (fun x y H Q => y = .non ∧ Q (.bl (decide (x = .non))) H) isD := fun x y d e z G H Q rx ry hz eg k => by
  unfold isD at hz
  split at hz
  · cases hz
    rename_i hc
    exact ⟨of_decide_eq_true ((non_dec ry).trans hc), Kon.ret k eg (rep_bl.mpr (by rw [non_dec rx]))⟩
  · cases hz
theorem rr_isnt : RzR u (fun x y H Q => y = .non ∧ Q (.bl (!decide (x = .non))) H) isntD := fun x y d e z G H Q rx ry hz eg k => by
  unfold isntD at hz
  split at hz
  · cases hz
    rename_i hc
    exact ⟨of_decide_eq_true ((non_dec ry).trans hc), Kon.ret k eg (rep_bl.mpr (by rw [non_dec rx]))⟩
  · cases hz
/-! ### in -/
def subB (i j : Str) : Bool := !(Builtin.Str.occurrences j i 0 j.length 1).isEmpty
def flatD : D → Bool
  | .non => true | .bl _ => true | .int _ => true | .str _ => true | _ => false
theorem flat_of {d : D} {v : V} (h : flatD d = true) (r : Rep u G d v) : flatV v = true := by
  cases d with
  | non => rw [rep_non.mp r]; rfl
  | bl _ => rw [rep_bl.mp r]; rfl
  | int _ => rw [rep_int.mp r]; rfl
  | str _ => rw [rep_str.mp r]; rfl
  | _ => cases h
theorem eqV_of {d e : D} {v w : V} (h : flatD d = true) (h' : flatD e = true) (r : Rep u G d v) (r' : Rep u G e w) : eqV v w = eqB d e := by
  cases d <;> first | (cases h; done) | skip
  all_goals (cases e <;> first | (cases h'; done) | skip)
  all_goals (simp only [Rep] at r r'; subst r r'; simp [eqV, eqB, toPy, PyData.eqv])
theorem flats_of : ∀ {ds : List D} {vs : List V}, ds.all flatD = true → RepL u G ds vs → vs.all flatV = true
  | [], vs, _, r => by simp only [RepL] at r; subst r; rfl
  | d :: ds, vs, h, r => by
    simp only [RepL] at r
    obtain ⟨v, rr, rfl, r1, r2⟩ := r
    simp only [List.all_cons, Bool.and_eq_true] at h ⊢
    exact ⟨flat_of h.1 r1, flats_of h.2 r2⟩
theorem inV_of {e : D} {w : V} (h' : flatD e = true) (r' : Rep u G e w) : ∀ {ds : List D} {vs : List V}, ds.all flatD = true → RepL u G ds vs → inV w vs = ds.any fun d => eqB d e
  | [], vs, _, r => by simp only [RepL] at r; subst r; rfl
  | d :: ds, vs, h, r => by
    simp only [RepL] at r
    obtain ⟨v, rr, rfl, r1, r2⟩ := r
    simp only [List.all_cons, Bool.and_eq_true] at h
    have := inV_of h' r' h.2 r2
    simp only [inV, List.any_cons] at this ⊢
    rw [eqV_of h.1 h' r1 r', this]
theorem toPyL_any {e : D} : ∀ {ds : List D}, ((toPyL ds).any fun z => PyData.eqv z (toPy e)) = ds.any fun d => eqB d e
  | [] => rfl
  | d :: ds => by simp only [toPyL, List.any_cons, eqB, toPyL_any]
def inB : D → D → Option Bool
  | .str i, .str j => some (subB i j)
  | x, .tup ys => if (flatD x && ys.all flatD) = true then some (ys.any fun y => eqB y x) else if (okPy x && okPy (.tup ys)) = true then some (ys.any fun y => eqB y x) else none
  | x, .lst ys => if (okPy x && okPy (.lst ys)) = true then some (ys.any fun y => eqB y x) else none
  | _, _ => none
def inD (x y : D) : Option D := (inB x y).map .bl
def notInD (x y : D) : Option D := (inB x y).map fun b => .bl (!b)
theorem in_tup {x y : V} {d : D} {ys : List D} {c : Bool} (rx : Rep u G d x) (ry : Rep u G (.tup ys) y) (eg : Ex G H) (h : (if (flatD d && ys.all flatD) = true then some (ys.any fun y => eqB y d) else if (okPy d && okPy (.tup ys)) = true then some (ys.any fun y => eqB y d) else none) = some c) :
    (∃ p xs, y = .ref p ∧ (SqL u.K H p xs ∨ SqT u.K H p xs) ∧ flatV x = true ∧ xs.all flatV = true ∧ inV x xs = c) ∨
    ∃ p ds, Dp u.K H x p ∧ Dp u.K H y (.tuple ds) ∧ SeqAt.shaped p = true ∧ SeqAt.shaped (.tuple ds) = true ∧ (ds.any fun z => PyData.eqv z p) = c := by
  split at h
  · cases h
    rename_i hc
    rw [Bool.and_eq_true] at hc
    obtain ⟨a, vs, rfl, a1, a2⟩ := rep_tup.mp ry
    exact .inl ⟨a, vs, rfl, .inr (ex_t eg a1), flat_of hc.1 rx, flats_of hc.2 a2, inV_of hc.1 rx hc.2 a2⟩
  · split at h
    · cases h
      rename_i hc
      rw [Bool.and_eq_true] at hc
      refine .inr ⟨toPy d, toPyL ys, rep_dp d (SeqAt.canLay_of_shaped hc.1) rx eg, ?_, hc.1, ?_, toPyL_any⟩
      · have := rep_dp (.tup ys) (SeqAt.canLay_of_shaped hc.2) ry eg
        simpa only [toPy] using this
      · have := hc.2
        simpa only [okPy, toPy] using this
    · cases h
theorem in_lst {x y : V} {d : D} {ys : List D} {c : Bool} (rx : Rep u G d x) (ry : Rep u G (.lst ys) y) (eg : Ex G H) (h : (if (okPy d && okPy (.lst ys)) = true then some (ys.any fun y => eqB y d) else none) = some c) :
    ∃ p ds, Dp u.K H x p ∧ Dp u.K H y (.list ds) ∧ SeqAt.shaped p = true ∧ SeqAt.shaped (.list ds) = true ∧ (ds.any fun z => PyData.eqv z p) = c := by
  split at h
  · cases h
    rename_i hc
    rw [Bool.and_eq_true] at hc
    refine ⟨toPy d, toPyL ys, rep_dp d (SeqAt.canLay_of_shaped hc.1) rx eg, ?_, hc.1, ?_, toPyL_any⟩
    · have := rep_dp (.lst ys) (SeqAt.canLay_of_shaped hc.2) ry eg
      simpa only [toPy] using this
    · have := hc.2
      simpa only [okPy, toPy] using this
  · cases h
theorem inB_cases {d e : D} {c : Bool} (h : inB d e = some c) : (∃ i j, d = .str i ∧ e = .str j ∧ c = subB i j) ∨ (∃ ys, e = .tup ys ∧ (if (flatD d && ys.all flatD) = true then some (ys.any fun y => eqB y d) else if (okPy d && okPy (.tup ys)) = true then some (ys.any fun y => eqB y d) else none) = some c) ∨
    ∃ ys, e = .lst ys ∧ (if (okPy d && okPy (.lst ys)) = true then some (ys.any fun y => eqB y d) else none) = some c := by
  unfold inB at h
  split at h
  · cases h; exact .inl ⟨_, _, rfl, rfl, rfl⟩
  · exact .inr (.inl ⟨_, rfl, h⟩)
  · exact .inr (.inr ⟨_, rfl, h⟩)
  · cases h
theorem rr_in : RzR u (MH.rInA u.K) inD := fun x y d e z G H Q rx ry hz eg k => by
  unfold inD at hz
  cases hb : inB d e with
  | none => rw [hb] at hz; cases hz
  | some c =>
    rw [hb] at hz
    cases hz
    rcases inB_cases hb with ⟨i, j, rfl, rfl, rfl⟩ | ⟨ys, rfl, h⟩ | ⟨ys, rfl, h⟩
    · exact .inl ⟨i, j, rep_str.mp rx, rep_str.mp ry, Kon.ret k eg (rep_bl.mpr rfl)⟩
    · rcases in_tup rx ry eg h with ⟨p, xs, h1, h2, h3, h4, h5⟩ | ⟨p, ds, h1, h2, h3, h4, h5⟩
      · exact .inr (.inl ⟨p, xs, h1, h2, h3, h4, Kon.ret k eg (rep_bl.mpr (by rw [h5]; rfl))⟩)
      · exact .inr (.inr (.inr ⟨p, ds, h1, h2, h3, h4, Kon.ret k eg (rep_bl.mpr (by rw [h5]))⟩))
    · obtain ⟨p, ds, h1, h2, h3, h4, h5⟩ := in_lst rx ry eg h
      exact .inr (.inr (.inl ⟨p, ds, h1, h2, h3, h4, Kon.ret k eg (rep_bl.mpr (by rw [h5]))⟩))
theorem rr_notIn : RzR u (MH.rNotInA u.K) notInD := fun x y d e z G H Q rx ry hz eg k => by
  unfold notInD at hz
  cases hb : inB d e with
  | none => rw [hb] at hz; cases hz
  | some c =>
    rw [hb] at hz
    cases hz
    rcases inB_cases hb with ⟨i, j, rfl, rfl, rfl⟩ | ⟨ys, rfl, h⟩ | ⟨ys, rfl, h⟩
    · exact .inl ⟨i, j, rep_str.mp rx, rep_str.mp ry, Kon.ret k eg (rep_bl.mpr rfl)⟩
    · rcases in_tup rx ry eg h with ⟨p, xs, h1, h2, h3, h4, h5⟩ | ⟨p, ds, h1, h2, h3, h4, h5⟩
      · exact .inr (.inl ⟨p, xs, h1, h2, h3, h4, Kon.ret k eg (rep_bl.mpr (by rw [h5]; rfl))⟩)
      · exact .inr (.inr (.inr ⟨p, ds, h1, h2, h3, h4, Kon.ret k eg (rep_bl.mpr (by rw [h5]))⟩))
    · obtain ⟨p, ds, h1, h2, h3, h4, h5⟩ := in_lst rx ry eg h
      exact .inr (.inr (.inl ⟨p, ds, h1, h2, h3, h4, Kon.ret k eg (rep_bl.mpr (by rw [h5]))⟩))
end
end ML
end
section
set_option Elab.async false
set_option linter.all false
set_option maxRecDepth 100000
set_option maxHeartbeats 2000000
set_option autoImplicit false
namespace ML
open PySem PySem.Spec PyProof.Rows L2
section
variable {u : Uv} {W : WX} {b : List Nat} {B G0 G G' H H' : Hp} {σ : L2.St} {ε : Env}
/-! ### x[i] -/
def ixD : D → D → Option D
  | .lst xs, .int i => atI xs i
  | .tup xs, .int i => atI xs i
  | .scr ns, .int i => (atI ns i).map .int
  | .str z, .int i => if z.length ≤ 100000 then (atI z.cps.toList i).map fun c => .str ⟨#[c]⟩ else none
  | _, _ => none
theorem atI_rep {xs : List D} {vs : List V} {i : Int} {d : D} (r : RepL u G xs vs) (h : atI xs i = some d) : ∃ v, atI vs i = some v ∧ Rep u G d v := by
  unfold atI at h ⊢
  rw [← r.length]
  cases e : ixN xs.length i with
  | none => rw [e] at h; cases h
  | some j =>
    rw [e] at h
    simp only [Option.bind_some] at h ⊢
    exact r.get h
theorem atI_map {ns : List Int} {i : Int} {n : Int} (h : atI ns i = some n) : atI (ns.map V.int) i = some (.int n) := by
  unfold atI at h ⊢
  rw [List.length_map]
  cases e : ixN ns.length i with
  | none => rw [e] at h; cases h
  | some j =>
    rw [e] at h
    simp only [Option.bind_some] at h ⊢
    rw [List.getElem?_map, h]; rfl
theorem rr_ix : RzR u (rIx u.K) ixD := fun x y d e z G H Q rx ry hz eg k => by
  cases d <;> cases e <;> simp only [ixD] at hz <;> first | (cases hz; done) | skip
  · split at hz
    · rename_i zz i hl
      cases hc : atI zz.cps.toList i with
      | none => rw [hc] at hz; cases hz
      | some c =>
        rw [hc] at hz
        cases hz
        exact .inr (.inr ⟨_, _, c, rep_str.mp rx, rep_int.mp ry, sz_of hl, hc, Kon.ret k eg (rep_str.mpr rfl)⟩)
    · cases hz
  · obtain ⟨a, vs, rfl, a1, a2⟩ := rep_tup.mp rx
    obtain ⟨v, h1, h2⟩ := atI_rep a2 hz
    exact .inr (.inl ⟨a, vs, _, v, rfl, rep_int.mp ry, ex_t eg a1, h1, Kon.ret k eg h2⟩)
  · obtain ⟨a, vs, rfl, a1, a2⟩ := rep_lst.mp rx
    obtain ⟨v, h1, h2⟩ := atI_rep a2 hz
    exact .inl ⟨a, vs, _, v, rfl, rep_int.mp ry, SqL.of (eg _ _ a1), h1, Kon.ret k eg h2⟩
  · rename_i ns i
    obtain ⟨a, rfl, a1⟩ := rep_scr.mp rx
    cases hc : atI ns i with
    | none => rw [hc] at hz; cases hz
    | some n =>
      rw [hc] at hz
      cases hz
      exact .inl ⟨a, _, _, _, rfl, rep_int.mp ry, ex_l eg a1, atI_map hc, Kon.ret k eg (rep_int.mpr rfl)⟩
/-- x[i], x a name that stays one's own -/
def ixPF (i : Nat) (fb : Env → Out D) : Env → Out D := fun ε => match lookAt i ε with
  | none => .bad
  | some _ => (fb ε).bnd fun e ε1 => match e, lookAt i ε1 with
    | .int j, some (.lst xs) => Out.opt (atI xs j) ε1
    | _, _ => .bad
theorem RepE.lookL {i : Nat} {xs : List D} (R : RepE u B G0 G H σ ε) (h : lookAt i ε = some (.lst xs)) : ∃ l vs, σ[i]? = some (some (.ref l)) ∧ H l = some (.lst vs) ∧ RepL u G xs vs := by
  unfold lookAt at h
  cases e : ε[i]? with
  | none => rw [e] at h; cases h
  | some s =>
    rw [e] at h
    obtain ⟨o, a1, a2⟩ := R.sl i s e
    cases s with
    | no => cases h
    | fz d' =>
      cases h
      obtain ⟨v, rfl, r⟩ := a2
      obtain ⟨a, vs, rfl, b1, b2⟩ := rep_lst.mp r
      exact ⟨a, vs, a1, R.gh _ _ b1, b2⟩
    | ow d' =>
      cases h
      obtain ⟨l, rfl, _, _, vs, b1, b2⟩ := a2
      exact ⟨l, vs, a1, b1, b2⟩
theorem rz_ixP {i : Nat} {tb : TE} {fb : Env → Out D} (hb : RzE u W tb fb) : RzE u W (tOp (rIx u.K) (tVar i) tb) (ixPF i fb) := fun B G0 G H σ ε Q R q => by
  unfold ixPF at q
  cases e0 : lookAt i ε with
  | none => rw [e0] at q; exact q.elim
  | some d0 =>
    rw [e0] at q
    simp only at q
    obtain ⟨v, hv, _⟩ := R.look e0
    refine ⟨v, hv, hb _ _ _ _ _ _ _ R (q.bnd.mono fun e ε1 G1 H1 e1 R1 h1 w rw => ?_)⟩
    cases e with
    | int j =>
      cases e2 : lookAt i ε1 with
      | none => simp only [e2] at h1; exact h1.elim
      | some d =>
        cases d with
        | lst xs =>
          simp only [e2] at h1
          obtain ⟨z, hz, h3⟩ := h1.opt
          obtain ⟨l, vs, c1, c2, c3⟩ := R1.lookL e2
          rw [hv] at c1
          cases c1
          obtain ⟨y, y1, y2⟩ := atI_rep c3 hz
          exact .inl ⟨l, vs, j, y, rfl, rep_int.mp rw, SqL.of c2, y1, h3.ret R1 y y2⟩
        | _ => simp only [e2] at h1; exact h1.elim
    | _ => exact h1.elim
/-! ### slices -/
def cutL {α : Type} (xs : List α) (lo hi : Option Int) : List α := (xs.drop (HT.sIx xs.length 0 lo)).take (HT.sIx xs.length xs.length hi - HT.sIx xs.length 0 lo)
def sliceD (d : D) (lo hi : Option Int) : Option D := match d with
  | .lst xs => some (.lst (cutL xs lo hi))
  | .tup xs => some (.tup (cutL xs lo hi))
  | .str z => if z.length ≤ 100000 then some (.str (cutS z lo hi)) else none
  | _ => none
def RzO (u : Uv) (W : WX) (to : TO) (f : Env → Out (Option Int)) : Prop := ∀ B G0 G H σ ε Q, RepE u B G0 G H σ ε → Pst u W B G0 σ G (f ε) (fun o _ _ H' => Q o H') → to σ H Q
def noPF : Env → Out (Option Int) := fun ε => .ok none ε
theorem ro_none : RzO u W tNoPart noPF := fun B G0 G H σ ε Q R q => q.ret R
def partF (f : Env → Out D) : Env → Out (Option Int) := fun ε => (f ε).bnd fun d ε1 => match d with
  | .int i => .ok (some i) ε1
  | _ => .bad
theorem ro_some {te : TE} {f : Env → Out D} (h : RzE u W te f) : RzO u W (tPart te) (partF f) := fun B G0 G H σ ε Q R q =>
  h _ _ _ _ _ _ _ R (q.bnd.mono fun d ε1 G1 H1 e1 R1 h1 v rv => by
    cases d with
    | int i => exact ⟨i, rep_int.mp rv, h1.ret R1⟩
    | _ => exact h1.elim)
theorem cutV_rep {xs : List D} {vs : List V} (r : RepL u G xs vs) (lo hi : Option Int) : RepL u G (cutL xs lo hi) (cutV vs lo hi) := by
  unfold cutL cutV
  rw [r.length]
  exact (r.drop _).take _
theorem cut_whole {α : Type} {xs : List α} {lo hi : Option Int} (h : HT.sIx xs.length 0 lo = 0 ∧ HT.sIx xs.length xs.length hi = xs.length) : cutL xs lo hi = xs := by
  unfold cutL
  rw [h.1, h.2]; simp
def slF (f : Env → Out D) (fl fh : Env → Out (Option Int)) : Env → Out D := fun ε => (f ε).bnd fun d ε1 => (fl ε1).bnd fun lo ε2 => (fh ε2).bnd fun hi ε3 => Out.opt (sliceD d lo hi) ε3
theorem rz_slice {te : TE} {tl th : TO} {f : Env → Out D} {fl fh : Env → Out (Option Int)} (h : RzE u W te f) (hl : RzO u W tl fl) (hh : RzO u W th fh) : RzE u W (tSl (MH.rSlAll u.K) te tl th) (slF f fl fh) := fun B G0 G H σ ε Q R q =>
  h _ _ _ _ _ _ _ R (q.bnd.mono fun d ε1 G1 H1 e1 R1 h1 v rv => hl _ _ _ _ _ _ _ R1 (h1.bnd.mono fun lo ε2 G2 H2 e2 R2 h2 => hh _ _ _ _ _ _ _ R2 (h2.bnd.mono fun hi ε3 G3 H3 e3 R3 h3 => by
    have rv3 : Rep u G3 d v := (rv.mono e2).mono e3
    obtain ⟨z, hz, h4⟩ := h3.opt
    cases d with
    | lst xs =>
      cases hz
      obtain ⟨a, vs, rfl, a1, a2⟩ := rep_lst.mp rv3
      exact .inl ⟨a, vs, rfl, SqL.of (R3.gh _ _ a1), fun p hp => h4.ret' (R3.exn hp _) (R3.new hp _) _ (rep_lst.mpr ⟨p, _, rfl, upd_same, RepL.mono (R3.exn hp _) _ (cutV_rep a2 lo hi)⟩)⟩
    | tup xs =>
      cases hz
      obtain ⟨a, vs, rfl, a1, a2⟩ := rep_tup.mp rv3
      refine .inr (.inl ⟨a, vs, rfl, ex_t R3.gh a1, fun hw => ?_, fun hw p hp => h4.ret' (R3.exn hp _) (R3.new hp _) _ (rep_tup.mpr ⟨p, _, rfl, upd_same, RepL.mono (R3.exn hp _) _ (cutV_rep a2 lo hi)⟩)⟩)
      rw [← a2.length] at hw
      exact h4.ret R3 _ (by rw [cut_whole hw]; exact rv3)
    | str zz =>
      simp only [sliceD] at hz
      split at hz
      · cases hz
        exact .inr (.inr ⟨zz, rep_str.mp rv3, sz_of (by assumption), h4.ret R3 _ (rep_str.mpr rfl)⟩)
      · cases hz
    | _ => cases hz)))
/-! ### built-ins -/
def oneD (f : D → Option D) : List D → Option D
  | [d] => f d
  | _ => none
theorem rc_one {r : List V → Hp → VK → Prop} {f : D → Option D} (h : ∀ x d z G H Q, Rep u G d x → f d = some z → Ex G H → Kon u z G H Q → r [x] H Q) : RzC u r (oneD f) := fun xs ds z G H Q rl hz eg k => by
  cases ds with
  | nil => cases hz
  | cons d ds =>
    cases ds with
    | cons _ _ => cases hz
    | nil =>
      simp only [RepL] at rl
      obtain ⟨v, r', rfl, r1, rfl⟩ := rl
      exact h v d z G H Q r1 hz eg k
def lenN : D → Option Nat
  | .lst xs => some xs.length
  | .tup xs => some xs.length
  | .scr ns => some ns.length
  | .str z => if z.length ≤ 100000 then some z.length else none
  | _ => none
def lenD : List D → Option D := oneD fun d => (lenN d).map fun n => .int (n : Nat)
theorem lenV_of {d : D} {n : Nat} {v : V} (r : Rep u G d v) (h : lenN d = some n) (e : Ex G H) : LenV u.K v H n := by
  cases d with
  | lst xs => cases h; obtain ⟨a, vs, rfl, a1, a2⟩ := rep_lst.mp r; exact .inl ⟨vs, SqL.of (e _ _ a1), a2.length⟩
  | tup xs => cases h; obtain ⟨a, vs, rfl, a1, a2⟩ := rep_tup.mp r; exact .inr ⟨vs, ex_t e a1, a2.length⟩
  | scr ns => cases h; obtain ⟨a, rfl, a1⟩ := rep_scr.mp r; exact .inl ⟨_, ex_l e a1, by simp⟩
  | str z =>
    simp only [lenN] at h
    split at h
    · cases h; rw [rep_str.mp r]; exact ⟨sz_of (by assumption), rfl⟩
    · cases h
  | _ => cases h
theorem rc_len : RzC u (fun xs H Q => ∃ x n, xs = [x] ∧ LenV u.K x H n ∧ Q (.int n) H) lenD := rc_one fun x d z G H Q r hz eg k => by
  cases hn : lenN d with
  | none => rw [hn] at hz; cases hz
  | some n => rw [hn] at hz; cases hz; exact ⟨x, n, rfl, lenV_of r hn eg, Kon.ret k eg (rep_int.mpr rfl)⟩
def bools : List D → Option (List Bool)
  | [] => some []
  | d :: ds => (asB d).bind fun b => (bools ds).map fun bs => b :: bs
theorem bools_rep : ∀ {ds : List D} {vs : List V} {bs : List Bool}, RepL u G ds vs → bools ds = some bs → vs = bs.map V.bl
  | [], vs, bs, r, h => by simp only [RepL] at r; cases h; exact r
  | d :: ds, vs, bs, r, h => by
    simp only [RepL] at r
    obtain ⟨v, rr, rfl, r1, r2⟩ := r
    simp only [bools] at h
    cases hb : asB d with
    | none => rw [hb] at h; cases h
    | some b =>
      rw [hb] at h
      simp only [Option.bind_some] at h
      cases hs : bools ds with
      | none => rw [hs] at h; cases h
      | some l => rw [hs] at h; cases h; rw [asB_rep hb r1, bools_rep r2 hs]; rfl
def intsD : List D → Option (List Int)
  | [] => some []
  | .int i :: ds => (intsD ds).map fun bs => i :: bs
  | _ => none
theorem intsD_rep : ∀ {ds : List D} {vs : List V} {bs : List Int}, RepL u G ds vs → intsD ds = some bs → vs = bs.map V.int
  | [], vs, bs, r, h => by simp only [RepL] at r; cases h; exact r
  | d :: ds, vs, bs, r, h => by
    simp only [RepL] at r
    obtain ⟨v, rr, rfl, r1, r2⟩ := r
    cases d with
    | int i =>
      simp only [intsD] at h
      cases hs : intsD ds with
      | none => rw [hs] at h; cases h
      | some l => rw [hs] at h; cases h; rw [rep_int.mp r1, intsD_rep r2 hs]; rfl
    | _ => cases h
def allD : List D → Option D := oneD fun
  | .lst ds => (bools ds).map fun bs => .bl (bs.all id)
  | _ => none
theorem rc_all : RzC u (rAll u.K) allD := rc_one fun x d z G H Q r hz eg k => by
  cases d with
  | lst ds =>
    simp only at hz
    cases hb : bools ds with
    | none => rw [hb] at hz; cases hz
    | some bs =>
      rw [hb] at hz; cases hz
      obtain ⟨a, vs, rfl, a1, a2⟩ := rep_lst.mp r
      exact ⟨a, bs, rfl, SqL.of (by rw [← bools_rep a2 hb]; exact eg _ _ a1), Kon.ret k eg (rep_bl.mpr rfl)⟩
  | _ => cases hz
def anyD : List D → Option D := oneD fun
  | .lst ds => (bools ds).map fun bs => .bl (bs.any id)
  | _ => none
theorem rc_any : RzC u (rAny u.K) anyD := rc_one fun x d z G H Q r hz eg k => by
  cases d with
  | lst ds =>
    simp only at hz
    cases hb : bools ds with
    | none => rw [hb] at hz; cases hz
    | some bs =>
      rw [hb] at hz; cases hz
      obtain ⟨a, vs, rfl, a1, a2⟩ := rep_lst.mp r
      exact ⟨a, bs, rfl, SqL.of (by rw [← bools_rep a2 hb]; exact eg _ _ a1), Kon.ret k eg (rep_bl.mpr rfl)⟩
  | _ => cases hz
def sumD : List D → Option D := oneD fun
  | .lst ds => (intsD ds).map fun bs => .int bs.sum
  | _ => none
theorem rc_sum : RzC u (rSum u.K) sumD := rc_one fun x d z G H Q r hz eg k => by
  cases d with
  | lst ds =>
    simp only at hz
    cases hb : intsD ds with
    | none => rw [hb] at hz; cases hz
    | some bs =>
      rw [hb] at hz; cases hz
      obtain ⟨a, vs, rfl, a1, a2⟩ := rep_lst.mp r
      exact ⟨a, bs, rfl, SqL.of (by rw [← intsD_rep a2 hb]; exact eg _ _ a1), Kon.ret k eg (rep_int.mpr rfl)⟩
  | _ => cases hz
def tupleD : List D → Option D := oneD fun
  | .lst ds => some (.tup ds)
  | .tup ds => some (.tup ds)
  | _ => none
theorem rc_tuple : RzC u (fun xs H Q => ∃ p ys, xs = [.ref p] ∧ ((SqL u.K H p ys ∧ ∀ l, H l = none → Q (.ref l) (upd H l (.tup ys))) ∨ (SqT u.K H p ys ∧ Q (.ref p) H))) tupleD := rc_one fun x d z G H Q r hz eg k => by
  cases d with
  | lst ds =>
    cases hz
    obtain ⟨a, vs, rfl, a1, a2⟩ := rep_lst.mp r
    exact ⟨a, vs, rfl, .inl ⟨SqL.of (eg _ _ a1), fun p hp => Kon.new k eg hp (rep_tup.mpr ⟨p, vs, rfl, upd_same, RepL.mono (Ex.upd (eg.free hp)) _ a2⟩)⟩⟩
  | tup ds =>
    cases hz
    obtain ⟨a, vs, rfl, a1, a2⟩ := rep_tup.mp r
    exact ⟨a, vs, rfl, .inr ⟨ex_t eg a1, Kon.ret k eg r⟩⟩
  | _ => cases hz
def listD : List D → Option D := oneD fun
  | .lst ds => some (.lst ds)
  | .tup ds => some (.lst ds)
  | _ => none
theorem rc_list : RzC u (fun xs H Q => ∃ p ys, xs = [.ref p] ∧ (SqL u.K H p ys ∨ SqT u.K H p ys) ∧ ∀ l, H l = none → Q (.ref l) (upd H l (.lst ys))) listD := rc_one fun x d z G H Q r hz eg k => by
  cases d with
  | lst ds =>
    cases hz
    obtain ⟨a, vs, rfl, a1, a2⟩ := rep_lst.mp r
    exact ⟨a, vs, rfl, .inl (SqL.of (eg _ _ a1)), fun p hp => Kon.new k eg hp (rep_lst.mpr ⟨p, vs, rfl, upd_same, RepL.mono (Ex.upd (eg.free hp)) _ a2⟩)⟩
  | tup ds =>
    cases hz
    obtain ⟨a, vs, rfl, a1, a2⟩ := rep_tup.mp r
    exact ⟨a, vs, rfl, .inr (ex_t eg a1), fun p hp => Kon.new k eg hp (rep_lst.mpr ⟨p, vs, rfl, upd_same, RepL.mono (Ex.upd (eg.free hp)) _ a2⟩)⟩
  | _ => cases hz
def intD : List D → Option D := oneD fun
  | .int i => some (.int i)
  | .bl c => some (.int (if c then 1 else 0))
  | _ => none
theorem rc_int : RzC u (fun xs H Q => (∃ i, xs = [.int i] ∧ Q (.int i) H) ∨ ∃ k, xs = [.bl k] ∧ Q (.int (if k then 1 else 0)) H) intD := rc_one fun x d z G H Q r hz eg k => by
  cases d with
  | int i => cases hz; exact .inl ⟨i, by rw [rep_int.mp r], Kon.ret k eg (rep_int.mpr rfl)⟩
  | bl c => cases hz; exact .inr ⟨c, by rw [rep_bl.mp r], Kon.ret k eg (rep_int.mpr rfl)⟩
  | _ => cases hz
/-! ### isinstance(x, T), T a built-in type or an own class -/
structure ClsOk (K : PySem.W.Frag) (C : Addr) : Prop where
  cl : Cls K C
  ha : PySem.W.findIn K (.ref C) "__class__" = some (some (.builtin "object.__class__"))
  hn : PySem.W.specialIn K (.builtin "object.__class__") "__get__" = some (some (.builtin "getset_descriptor.__get__"))
  htk : PySem.W.takesIn K (.builtin "object.__class__") = some true
  hm : PySem.W.mroIn K C (.type "object") = some true
  no : ∀ T ∈ ["int", "bool", "str", "tuple", "list", "dict"], PySem.W.kitOne K (.ref C) (.type T) = some false
  yes : PySem.W.kitOne K (.ref C) (.ref C) = some true
  none_ : ∀ T ∈ ["NoneType", "int", "bool", "str", "tuple", "list", "dict"], PySem.W.kitOne K (.type T) (.ref C) = some false
def kindD : D → String
  | .non => "NoneType" | .bl _ => "bool" | .int _ => "int" | .str _ => "str" | .tup _ => "tuple" | .lst _ => "list" | .scr _ => "list" | .dk _ _ => "dict" | .dt _ _ => "dict" | .obj _ _ _ => "object"
def isiB (d : D) (T : String) : Bool := kindD d == T || (T == "int" && kindD d == "bool")
theorem tyX_of {d : D} {v : V} (r : Rep u G d v) (e : Ex G H) (h : kindD d ≠ "object") (hs : ∀ ns, d ≠ .scr ns) : TyX u.K H v (.type (kindD d)) := by
  cases d with
  | non => rw [rep_non.mp r]; exact .base .non
  | bl c => rw [rep_bl.mp r]; exact .base (.bl c)
  | int c => rw [rep_int.mp r]; exact .base (.int c)
  | str c => rw [rep_str.mp r]; exact .base (.str c)
  | tup ds =>
    obtain ⟨a, vs, rfl, a1, a2⟩ := rep_tup.mp r
    rcases ex_t e a1 with (h1 | ⟨o, h1⟩) | ⟨o, its, n, h1, h2, _⟩
    · exact .base (.tup h1)
    · exact .fTuple h1
    · exact .kTuple h1 h2
  | lst ds => obtain ⟨a, vs, rfl, a1, a2⟩ := rep_lst.mp r; exact .base (.lst (e _ _ a1))
  | scr ns => exact absurd rfl (hs ns)
  | dk _ _ => simp only [Rep] at r; obtain ⟨a, vs, rfl, a1, _⟩ := r; exact .base (.dK (e _ _ a1))
  | dt _ _ => simp only [Rep] at r; obtain ⟨a, vs, rfl, a1, _⟩ := r; exact .base (.dT (e _ _ a1))
  | obj _ _ _ => exact absurd rfl h
def typesB : List String := ["int", "bool", "str", "tuple", "list", "dict"]
theorem kit_all (K : PySem.W.Frag) : ∀ a ∈ ["NoneType", "bool", "int", "str", "tuple", "list", "dict"], ∀ T ∈ typesB, PySem.W.kitOne K (.type a) (.type T) = some (a == T || (T == "int" && a == "bool")) := by
  have key : (["NoneType", "bool", "int", "str", "tuple", "list", "dict"].all fun a => typesB.all fun T => decide (kitB a T = some (a == T || (T == "int" && a == "bool")))) = true := by decide +kernel
  intro a ha T hT
  have h1 := List.all_eq_true.mp key a ha
  have h2 := of_decide_eq_true (List.all_eq_true.mp h1 T hT)
  exact kit_ty h2
/-- is it an instance of T -/
def isiF (f : Env → Out D) (T : String) : Env → Out D := fun ε => (f ε).bnd fun d ε1 => match d with
  | .scr _ => .bad
  | .obj _ _ _ => .ok (.bl false) ε1
  | d => .ok (.bl (isiB d T)) ε1
theorem rz_isi {te : TE} {f : Env → Out D} {T : String} (h : RzE u W te f) (hT : T ∈ typesB) (hc : ∀ c, ClsOk u.K (u.cl c)) : RzE u W (tCB (rIsi u.K) (tCons te (tCons (tC (.ty T)) tNil))) (isiF f T) := fun B G0 G H σ ε Q R q =>
  h _ _ _ _ _ _ _ R (q.bnd.mono fun d ε1 G1 H1 e1 R1 h1 v rv => by
    have fin : ∀ (t : Value) (c : Bool), TyX u.K H1 v t → PySem.W.kitOne u.K t (.type T) = some c → Q (.bl c) H1 → rIsi u.K [v, .ty T] H1 Q := fun t c a b q => ⟨v, .ty T, t, .type T, c, rfl, .ty T, a, b, q⟩
    cases d with
    | scr _ => exact h1.elim
    | obj c fs ds =>
      simp only [Rep] at rv
      obtain ⟨a, dx, ws, rfl, a1, _⟩ := rv
      have C := hc c
      exact fin _ false (.base (.ins (R1.gh _ _ a1) C.cl C.ha C.hn C.htk C.hm)) (C.no T hT) (h1.ret R1 _ (rep_bl.mpr rfl))
    | non => exact fin _ _ (tyX_of rv R1.gh (by simp [kindD]) (fun _ z => by cases z)) (kit_all _ _ (by simp [kindD]) T hT) (h1.ret R1 _ (rep_bl.mpr rfl))
    | bl _ => exact fin _ _ (tyX_of rv R1.gh (by simp [kindD]) (fun _ z => by cases z)) (kit_all _ _ (by simp [kindD]) T hT) (h1.ret R1 _ (rep_bl.mpr rfl))
    | int _ => exact fin _ _ (tyX_of rv R1.gh (by simp [kindD]) (fun _ z => by cases z)) (kit_all _ _ (by simp [kindD]) T hT) (h1.ret R1 _ (rep_bl.mpr rfl))
    | str _ => exact fin _ _ (tyX_of rv R1.gh (by simp [kindD]) (fun _ z => by cases z)) (kit_all _ _ (by simp [kindD]) T hT) (h1.ret R1 _ (rep_bl.mpr rfl))
    | tup _ => exact fin _ _ (tyX_of rv R1.gh (by simp [kindD]) (fun _ z => by cases z)) (kit_all _ _ (by simp [kindD]) T hT) (h1.ret R1 _ (rep_bl.mpr rfl))
    | lst _ => exact fin _ _ (tyX_of rv R1.gh (by simp [kindD]) (fun _ z => by cases z)) (kit_all _ _ (by simp [kindD]) T hT) (h1.ret R1 _ (rep_bl.mpr rfl))
    | dk _ _ => exact fin _ _ (tyX_of rv R1.gh (by simp [kindD]) (fun _ z => by cases z)) (kit_all _ _ (by simp [kindD]) T hT) (h1.ret R1 _ (rep_bl.mpr rfl))
    | dt _ _ => exact fin _ _ (tyX_of rv R1.gh (by simp [kindD]) (fun _ z => by cases z)) (kit_all _ _ (by simp [kindD]) T hT) (h1.ret R1 _ (rep_bl.mpr rfl)))
/-- is it an instance of the own class c (only one own class is met) -/
def isoF (f : Env → Out D) (c : Nat) : Env → Out D := fun ε => (f ε).bnd fun d ε1 => match d with
  | .scr _ => .bad
  | .obj c' _ _ => if c' = c then .ok (.bl true) ε1 else .bad
  | _ => .ok (.bl false) ε1
theorem rz_iso {te : TE} {f : Env → Out D} {c : Nat} (h : RzE u W te f) (hc : ClsOk u.K (u.cl c)) : RzE u W (tCB (rIsi u.K) (tCons te (tCons (tC (.ref (u.cl c))) tNil))) (isoF f c) := fun B G0 G H σ ε Q R q =>
  h _ _ _ _ _ _ _ R (q.bnd.mono fun d ε1 G1 H1 e1 R1 h1 v rv => by
    have fin : ∀ (t : Value) (k : Bool), TyX u.K H1 v t → PySem.W.kitOne u.K t (.ref (u.cl c)) = some k → Q (.bl k) H1 → rIsi u.K [v, .ref (u.cl c)] H1 Q := fun t k a b q => ⟨v, .ref (u.cl c), t, .ref (u.cl c), k, rfl, .own _, a, b, q⟩
    cases d with
    | scr _ => exact h1.elim
    | obj c' fs ds =>
      by_cases hcc : c' = c
      · subst hcc
        simp only [if_true] at h1
        simp only [Rep] at rv
        obtain ⟨a, dx, ws, rfl, a1, _⟩ := rv
        exact fin _ true (.base (.ins (R1.gh _ _ a1) hc.cl hc.ha hc.hn hc.htk hc.hm)) hc.yes (h1.ret R1 _ (rep_bl.mpr rfl))
      · simp only [if_neg hcc] at h1; exact h1.elim
    | non => exact fin _ _ (tyX_of rv R1.gh (by simp [kindD]) (fun _ z => by cases z)) (hc.none_ _ (by simp [kindD])) (h1.ret R1 _ (rep_bl.mpr rfl))
    | bl _ => exact fin _ _ (tyX_of rv R1.gh (by simp [kindD]) (fun _ z => by cases z)) (hc.none_ _ (by simp [kindD])) (h1.ret R1 _ (rep_bl.mpr rfl))
    | int _ => exact fin _ _ (tyX_of rv R1.gh (by simp [kindD]) (fun _ z => by cases z)) (hc.none_ _ (by simp [kindD])) (h1.ret R1 _ (rep_bl.mpr rfl))
    | str _ => exact fin _ _ (tyX_of rv R1.gh (by simp [kindD]) (fun _ z => by cases z)) (hc.none_ _ (by simp [kindD])) (h1.ret R1 _ (rep_bl.mpr rfl))
    | tup _ => exact fin _ _ (tyX_of rv R1.gh (by simp [kindD]) (fun _ z => by cases z)) (hc.none_ _ (by simp [kindD])) (h1.ret R1 _ (rep_bl.mpr rfl))
    | lst _ => exact fin _ _ (tyX_of rv R1.gh (by simp [kindD]) (fun _ z => by cases z)) (hc.none_ _ (by simp [kindD])) (h1.ret R1 _ (rep_bl.mpr rfl))
    | dk _ _ => exact fin _ _ (tyX_of rv R1.gh (by simp [kindD]) (fun _ z => by cases z)) (hc.none_ _ (by simp [kindD])) (h1.ret R1 _ (rep_bl.mpr rfl))
    | dt _ _ => exact fin _ _ (tyX_of rv R1.gh (by simp [kindD]) (fun _ z => by cases z)) (hc.none_ _ (by simp [kindD])) (h1.ret R1 _ (rep_bl.mpr rfl)))
end
end ML
end
section
set_option Elab.async false
set_option linter.all false
set_option maxRecDepth 100000
set_option maxHeartbeats 2000000
set_option autoImplicit false
namespace MH
open PySem PySem.Spec PyProof.Rows L2
open PySem.W (EachIs AllAlike Sortable dataLe)
/-! ### tuples, some of them empty, sorted -/
section
variable {prog : Program} {w : World} {A : Around} {E : Value → Shared → Prop} {s : Shared}
theorem oneLt_tuples {xs ys : List PyData} {a b : Value} {as bs : List Addr} {Q : Bool → Shared → Prop} (ra : Reads s.heap a (.tuple xs) as) (rb : Reads s.heap b (.tuple ys) bs) (hal : PySem.W.alikeAll xs ys = true)
    (hu : A.units + min (PyData.tuple xs).depth (PyData.tuple ys).depth < cLine) (hq : Q (PySem.W.dataLt (.tuple xs) (.tuple ys)) s) : wpAny (model prog w) A (oneLt' true a b) Q E s := by
  cases ra with
  | @tuple l o vs n _ as₁ h1 h2 h3 h4 =>
    cases rb with
    | @tuple l' o' vs' n' _ bs₁ k1 k2 k3 k4 =>
      have n1 : vs.size = xs.length := by simpa using SeqAt.ReadsAll.length _ _ _ h4
      have n2 : vs'.size = ys.length := by simpa using SeqAt.ReadsAll.length _ _ _ k4
      rw [PySem.W.dataLt_tuple, ← PySem.W.firstLt_toks xs ys hal, ← n1, ← n2] at hq
      rw [oneLt'_eq]
      simp only [if_true]
      refine wpAny_bind (wpAny_cRoomFor (SeqAt.room_here hu) ?_)
      obtain ⟨cls, dd, data, sl⟩ := o
      obtain ⟨cls2, dd2, data2, sl2⟩ := o'
      simp only at h2 h3 k2 k3
      subst h2 h3 k2 k3
      refine wpAny_bind (wpAny_callSpecialIfBound?_slot (T := "tuple") ⟨_, h1, rfl⟩ F.slot_tuple_lt (call_meets F.slot_tuple_lt ⟨_, h1, rfl⟩ F.entry_tuple_lt (F.args_tuple_lt_2 _ _)
        (SeqAt.tuple_ltAt l l' vs vs' n n' dd dd2 sl sl2 (SeqAt.pairEq xs ys) (fun j => PySem.W.dataLt (xs.getD j .none) (ys.getD j .none))) ⟨h1, k1, fun j j1 j2 => ?_, fun j j1 j2 hj => ?_, ?_⟩))
      · have := PySem.W.eqAt_alikeAll xs ys A.in1 s vs.toList vs'.toList _ _ h4 k4 hal (SeqAt.room_in hu) j (by simpa using j1) (by simpa using j2)
        simpa using this
      · have := PySem.W.rcLt_alikeAll xs ys A.in1 s vs.toList vs'.toList _ _ h4 k4 hal (SeqAt.room_in hu) j (by simpa using j1) (by simpa using j2) hj
        simpa using this
      · exact wpAny_truthy_bool hq
def isNilT : PyData → Bool
  | .tuple [] => true
  | _ => false
theorem isNilT_iff {d : PyData} (h : ∃ xs, d = .tuple xs) : isNilT d = true ↔ d = .tuple [] := by
  obtain ⟨xs, rfl⟩ := h
  cases xs <;> simp [isNilT]
def TupsR (h : Heap) : List Value → List PyData → Prop := EachIs (fun (v : Value) (d : PyData) => ∃ as, Reads h v d as)
theorem firstsE {M : Model} : ∀ {vs : List Value} {ds : List PyData}, TupsR s.heap vs ds → (∀ d : PyData, d ∈ ds → ∃ xs, d = .tuple xs) →
    ∃ fos : List (Option Value), fos.length = vs.length ∧ (∀ i : Nat, fos[i]? = some none ↔ ds[i]? = some (.tuple [])) ∧ ∀ {Q : List (Option Value) → Shared → Prop}, Q fos s → wpAny M A (vs.mapM firstOfTuple') Q E s
  | _, _, .nil, _ => ⟨[], rfl, fun i => by simp, fun {Q} h => by rw [List.mapM_nil]; exact wpAny_pure h⟩
  | _, _, .cons (b := d) ⟨as, r⟩ t, ht => by
    obtain ⟨fos, h1, h2, h3⟩ := firstsE (M := M) t fun d hd => ht d (List.mem_cons_of_mem _ hd)
    obtain ⟨xs, rfl⟩ := ht d (List.mem_cons_self ..)
    cases r with
    | @tuple a o vs n _ _ ho hc hd hr =>
      have n1 : vs.size = xs.length := by simpa using SeqAt.ReadsAll.length _ _ _ hr
      refine ⟨vs[0]? :: fos, by simp [h1], fun i => ?_, fun {Q} h => ?_⟩
      · cases i with
        | zero =>
          simp only [List.getElem?_cons_zero, Option.some.injEq, PyData.tuple.injEq]
          constructor
          · intro e
            have : vs.size ≤ 0 := by simpa using e
            exact List.eq_nil_of_length_eq_zero (by omega)
          · intro e
            rw [e] at n1
            simp at n1
            simp [n1]
        | succ i => simpa using h2 i
      · rw [List.mapM_cons]
        refine wpAny_bind ?_
        rw [PySem.W.kas_first_eq]
        refine wpAny_bind (PySem.W.Looks.here (show PySem.W.Looks M s.heap (typeOf (.ref a)) o.cls from (PySem.W.Looks.ld ho).andThen .now) ?_)
        rw [hc, if_neg (by first | decide | simp)]
        refine wpAny_bind (listItems_at ho hd (wpAny_pure ?_))
        exact wpAny_bind (h3 (Q := fun bs s' => wpAny M A (pure (vs[0]? :: bs)) Q E s') (wpAny_pure h))
theorem kindE {M : Model} {vs : List Value} {d : PyData} {ds : List PyData} (e : TupsR s.heap vs (d :: ds)) (ht : ∀ x, x ∈ d :: ds → ∃ xs, x = .tuple xs) (hn : .tuple [] ∈ d :: ds) {Q : SortKind → Shared → Prop}
    (h : Q (if isNilT d = true then oneType' else general') s) : wpAny M A (keyKind' vs.toArray) Q E s := by
  obtain ⟨fos, h1, h2, h3⟩ := firstsE (A := A) (E := E) (M := M) e ht
  rw [keyKind'_eq, List.mapM_toArray, map_eq_pure_bind]
  refine wpAny_bind (wpAny_bind (h3 (wpAny_pure ?_)))
  have hall : ¬ (fos.toArray.all fun x => x.isSome) = true := by
    intro q
    obtain ⟨i, hi⟩ := List.getElem?_of_mem hn
    have := (h2 i).2 hi
    have := List.mem_of_getElem? this
    rw [List.all_toArray, List.all_eq_true] at q
    have := q none this
    cases this
  rw [if_neg hall]
  have hnil := isNilT_iff (ht d (List.mem_cons_self ..))
  by_cases hd : d = .tuple []
  · have h0 : fos[0]? = some none := (h2 0).2 (by rw [hd]; rfl)
    rw [if_pos (hnil.2 hd)] at h
    rw [if_neg (by simp [h0])]
    rw [oneTypeOnly'_eq, List.mapM_toArray, map_eq_pure_bind]
    have hT : ∀ v ∈ vs, PySem.W.Looks M s.heap (typeOf v) (.type "tuple") := fun v hv => by
      obtain ⟨x, hx, as, r⟩ := EachIs.left e v hv
      obtain ⟨xs, rfl⟩ := ht x hx
      exact PySem.W.looks_reads r
    refine wpAny_bind (wpAny_bind (wpAny_bind (PySem.W.kas_mapM (r := Value.type "tuple") _ (fun v hv Q' hq => (hT v hv).here hq) (wpAny_pure ?_))))
    have hall : ((List.map (fun _ => Value.type "tuple") vs).toArray.all fun x => x == Value.type "tuple") = true := by
      simp only [List.all_toArray, List.all_map, List.all_eq_true]
      intro _ _
      rfl
    have hv0 : (List.map (fun _ => Value.type "tuple") vs).toArray[0]? = some (Value.type "tuple") := by
      cases e with
      | cons _ _ => simp
    rw [hv0]
    simp only [hall, if_true]
    exact wpAny_pure (wpAny_pure h)
  · have h0 : (fos[0]?.bind id).isSome = true := by
      have hl : 0 < fos.length := by
        rw [h1]
        cases e with
        | cons _ _ => simp
      have e0 : fos[0]? = some fos[0] := by simp [hl]
      have hne : fos[0] ≠ none := fun q => hd (by
        have := (h2 0).1 (by rw [e0, q])
        simpa using this)
      rw [e0]
      cases q : fos[0] with
      | none => exact absurd q hne
      | some v => rfl
    rw [if_neg (fun q => hd (hnil.1 q))] at h
    rw [if_pos (by simpa using h0)]
    exact wpAny_pure h
theorem sortsE {vs : List Value} {ds : List PyData} (e : TupsR s.heap vs ds) (hal : AllAlike ds) (ht : ∀ d, d ∈ ds → ∃ xs, d = .tuple xs) (hu : ∀ d, d ∈ ds → A.units + d.depth < cLine) : PySem.W.SortsAt prog w A s (PySem.W.dataKind s.heap ds) vs := by
  by_cases hn : PyData.tuple [] ∈ ds
  · refine ⟨fun v hv => ?_, ?_⟩
    · obtain ⟨d, hd, as, r⟩ := EachIs.left e v hv
      exact ⟨_, PySem.W.dataKind_some hal hd r⟩
    · cases ds with
      | nil => cases hn
      | cons d ds =>
        refine ⟨if isNilT d = true then oneType' else general', ?_, fun _ E Q hq => kindE e ht hn hq⟩
        intro E x y a b Q ha hb hq
        obtain ⟨d1, as, hd, ra, rfl⟩ := PySem.W.dataKind_inv ha
        obtain ⟨d2, as', hd', rb, rfl⟩ := PySem.W.dataKind_inv hb
        have hdd := hal d1 hd d2 hd'
        have hroom : A.units + min d1.depth d2.depth < cLine := Nat.lt_of_le_of_lt (Nat.add_le_add_left (Nat.min_le_left _ _) _) (hu d1 hd)
        obtain ⟨x1, rfl⟩ := ht d1 hd
        obtain ⟨x2, rfl⟩ := ht d2 hd'
        by_cases q : isNilT d = true
        · rw [if_pos q, keyLt'_oneType]
          exact oneLt_tuples ra rb (by simpa [PySem.W.alike] using hdd) hroom hq
        · rw [if_neg q]
          show wpAny _ _ (oneLt' false _ _) _ _ _
          exact PySem.W.oneLt_alike (f := false) (fun z => by cases z) ra rb hdd (by simp) hroom hq
  · refine PySem.W.SortsAt.data e hal (.inl fun d hd => ?_) hu
    obtain ⟨xs, rfl⟩ := ht d hd
    cases xs with
    | nil => exact absurd hd hn
    | cons x r => exact ⟨x, r, rfl⟩
/-- alike data that can be sorted -/
def SortableE (ds : List PyData) : Prop := (∀ d, d ∈ ds → ∃ xs, d = .tuple xs) ∨ ∀ d, d ∈ ds → d ≠ .none ∧ ∀ xs, d ≠ .tuple xs
theorem sortsAt {vs : List Value} {ds : List PyData} (e : TupsR s.heap vs ds) (hal : AllAlike ds) (ht : SortableE ds) (hu : ∀ d, d ∈ ds → A.units + d.depth < cLine) : PySem.W.SortsAt prog w A s (PySem.W.dataKind s.heap ds) vs := by
  rcases ht with ht | ht
  · exact sortsE e hal ht hu
  · exact PySem.W.SortsAt.data e hal (.inr ht) hu
theorem sorted_dataE {β : Type} {vs : List Value} {bs : List β} {enc : β → PyData} {R : Value → β → Prop} {l : Addr} {Q : Value → Shared → Prop} (hl : s.heap.IsList l vs.toArray) (e : EachIs R vs bs) (er : EachIs (fun v b => ∃ as, Reads s.heap v (enc b) as) vs bs) (hal : AllAlike (bs.map enc)) (hk : SortableE (bs.map enc)) (hL : bs.length ≤ sizeLine)
    (hu : ∀ b, b ∈ bs → A.units + 2 + (enc b).depth < cLine) (h : ∀ out, out.length = bs.length → EachIs R out (bs.mergeSort (dataLe false enc)) → Q (.ref (s.heap.objs.size + 1)) { s with heap := sortedAll s.heap vs (List.toArray out) }) :
    wpAny (model prog w) A (call (.builtin "sorted") [.ref l]) Q E s := by
  have er' : EachIs (fun v b => ∃ as, Reads (PySem.W.sortingHeap (PySem.W.copyHeap s.heap vs) (s.heap.objs.size + 1) vs) v (enc b) as) vs bs := er.mono fun _ _ ⟨as, r⟩ => ⟨as, PyProof.Rows.Reads.keeps (fun _ _ => PySem.W.sorting_copy_old) r⟩
  exact PySem.W.sorted_vals hl (sortsAt (s := { s with heap := PySem.W.sortingHeap (PySem.W.copyHeap s.heap vs) (s.heap.objs.size + 1) vs }) (PySem.W.each_map (R := fun v d => ∃ as, Reads (PySem.W.sortingHeap (PySem.W.copyHeap s.heap vs) (s.heap.objs.size + 1) vs) v d as) enc er') hal hk (PySem.W.bound_map (A := A.in1.in1) hu)) (by rw [e.length]; exact hL)
    (h _ (by rw [PySem.W.sortVals_length false rfl]; exact e.length) (PySem.W.sortVals_data false e er' hal))
end
theorem dpAll_each {X : Cx} {pins : List (Addr × Obj)} {σ : L2.St} {H : Hp} {s : Shared} (I : Inv X pins σ H s) : ∀ {vs : List V} {ps : List PyData} {us : List Value}, DpAll X.K H vs ps → Vals vs us →
    EachIs (fun (v : Value) (b : V × PyData) => RelV b.1 v) us (vs.zip ps) ∧ EachIs (fun (v : Value) (b : V × PyData) => ∃ as, Reads s.heap v b.2 as) us (vs.zip ps)
  | _, _, _, .nil, .nil => ⟨.nil, .nil⟩
  | _, _, _, .cons d ds, .cons r rs => by
    obtain ⟨h1, h2⟩ := dpAll_each I ds rs
    exact ⟨.cons r h1, .cons (Dp.reads I _ _ _ d r) h2⟩
theorem zip_snd : ∀ {vs : List V} {ps : List PyData}, vs.length = ps.length → (vs.zip ps).map (·.2) = ps
  | [], [], _ => rfl
  | _ :: _, _ :: _, h => by simp only [List.zip_cons_cons, List.map_cons]; rw [zip_snd (by simpa using h)]
  | [], _ :: _, h => by cases h
  | _ :: _, [], h => by cases h
theorem dpAll_len {K : PySem.W.Frag} {H : Hp} : ∀ {vs : List V} {ps : List PyData}, DpAll K H vs ps → vs.length = ps.length
  | _, _, .nil => rfl
  | _, _, .cons _ h => by simp [dpAll_len h]
theorem each_vals : ∀ {us : List Value} {bs : List (V × PyData)}, EachIs (fun (v : Value) (b : V × PyData) => RelV b.1 v) us bs → Vals (bs.map (·.1)) us
  | _, _, .nil => .nil
  | _, _, .cons r h => .cons r (each_vals h)
/-- sorted(a list of alike data) -/
def rSortD (K : PySem.W.Frag) : List V → Hp → VK → Prop := fun xs H Q => ∃ (a : Addr) (vs : List V) (ps : List PyData), xs = [.ref a] ∧ SqL K H a vs ∧ DpAll K H vs ps ∧ AllAlike ps ∧ SortableE ps ∧ (∀ p ∈ ps, p.depth ≤ 64) ∧
  ∀ p, H p = none → Q (.ref p) (upd H p (.lst (((vs.zip ps).mergeSort (dataLe false fun b => b.2)).map (·.1))))
theorem cr_sortD {X : Cx} {k : Nat} (hr : Room k X.A) : CallR X (.builtin "sorted") (rSortD X.K) := by
  intro pins s σ H xs us Q I r h
  obtain ⟨a, vs, ps, rfl, hs, hd, ha, hk, hdp, q⟩ := h
  obtain ⟨its, rv, hl, hz⟩ := I.list hs
  rw [Vals.ref1 r]
  obtain ⟨e1, e2⟩ := dpAll_each I hd rv
  have el := dpAll_len hd
  have ez : (vs.zip ps).map (fun b => b.2) = ps := zip_snd el
  have hlz : (vs.zip ps).length = vs.length := by rw [List.length_zip, el]; omega
  refine sorted_dataE (bs := vs.zip ps) (enc := fun b => b.2) hl.isList e1 e2 (by rw [ez]; exact ha) (by rw [ez]; exact hk) (by rw [hlz]; exact hz) (fun b hb => ?_) fun out ho he => ?_
  · have := hdp b.2 (by rw [← ez]; exact List.mem_map_of_mem hb)
    have := hr.un
    omega
  · obtain ⟨ep, he'⟩ := PyProof.Rows.sortedAll_at s.heap its out.toArray
    have hlen : (((vs.zip ps).mergeSort (dataLe false fun b => b.2)).map (·.1)).length ≤ sizeLine := by
      rw [List.length_map, List.length_mergeSort, hlz]; exact hz
    exact ⟨.ref _, upd H (s.heap.objs.size + 1) (.lst (((vs.zip ps).mergeSort (dataLe false fun b => b.2)).map (·.1))), I.laid (t' := s.toks) (fun _ _ => PyProof.Rows.sortedAll_old) (Nat.le_succ _) ⟨hlen, out, ep, each_vals he, he'⟩, rfl, q _ (I.hok.fresh (Nat.le_succ _))⟩
end MH
namespace ML
open PySem PySem.Spec PyProof.Rows L2
open PySem.W (AllAlike Sortable dataLe alike)
section
variable {u : Uv} {W : WX} {b : List Nat} {B G0 G G' H H' : Hp} {σ : L2.St} {ε : Env}
/-- alike, sortable, not too deep -/
def sortOk0 (ds : List D) : Bool := ds.all (fun d => ds.all fun e => alike (toPy d) (toPy e)) && (ds.all (fun d => match d with | .tup (_ :: _) => true | _ => false) || ds.all fun d => match d with | .int _ => true | .str _ => true | .bl _ => true | .lst _ => true | _ => false) && ds.all fun d => okPy d
def sortOk (ds : List D) : Bool := ds.all (fun d => ds.all fun e => alike (toPy d) (toPy e)) && (ds.all (fun d => match d with | .tup _ => true | _ => false) || ds.all fun d => match d with | .int _ => true | .str _ => true | .bl _ => true | .lst _ => true | _ => false) && ds.all fun d => okPy d
def sortL (ds : List D) : List D := ds.mergeSort (dataLe false toPy)
theorem mem_toPyL {p : PyData} : ∀ {ds : List D}, p ∈ toPyL ds → ∃ d, d ∈ ds ∧ p = toPy d
  | [], h => by simp [toPyL] at h
  | d :: ds, h => by
    simp only [toPyL, List.mem_cons] at h
    rcases h with h | h
    · exact ⟨d, List.mem_cons_self, h⟩
    · obtain ⟨e, h1, h2⟩ := mem_toPyL h
      exact ⟨e, List.mem_cons_of_mem _ h1, h2⟩
theorem canAll {ds : List D} (h : ∀ d ∈ ds, okPy d = true) : PyData.canLayAll0 (toPyL ds) = true := by
  induction ds with
  | nil => rfl
  | cons d ds ih =>
    simp only [toPyL, PyData.canLayAll0, Bool.and_eq_true]
    exact ⟨SeqAt.canLay_of_shaped (h d List.mem_cons_self), ih fun e he => h e (List.mem_cons_of_mem _ he)⟩
theorem toPyL_map : ∀ ds : List D, toPyL ds = ds.map toPy
  | [] => rfl
  | d :: ds => by simp only [toPyL, List.map_cons, toPyL_map ds]
theorem sort_rep {ds : List D} {vs : List V} (r : RepL u G ds vs) : RepL u G (sortL ds) (((vs.zip (toPyL ds)).mergeSort (dataLe false fun b => b.2)).map (·.1)) := by
  have h1 : (vs.zip (toPyL ds)).mergeSort (dataLe false fun b => b.2) = ((vs.zip ds).mergeSort (dataLe false fun b => toPy b.2)).map (fun b => (b.1, toPy b.2)) := by
    rw [List.map_mergeSort (r := dataLe false fun b : V × D => toPy b.2) (s := dataLe false fun b : V × PyData => b.2) (f := fun b : V × D => (b.1, toPy b.2)) (fun a _ b _ => rfl)]
    congr 1
    rw [toPyL_map]
    clear r
    induction vs generalizing ds with
    | nil => simp
    | cons v vs ih => cases ds with
      | nil => simp
      | cons d ds => simp [ih]
  have h2 : sortL ds = ((vs.zip ds).mergeSort (dataLe false fun b => toPy b.2)).map (·.2) := by
    unfold sortL
    rw [List.map_mergeSort (r := dataLe false fun b : V × D => toPy b.2) (s := dataLe false toPy) (f := fun b : V × D => b.2) (fun a _ b _ => rfl)]
    congr 1
    have hl := r.length
    clear r h1
    induction vs generalizing ds with
    | nil => cases ds with
      | nil => rfl
      | cons _ _ => cases hl
    | cons v vs ih => cases ds with
      | nil => cases hl
      | cons d ds => simp only [List.zip_cons_cons, List.map_cons]; rw [← ih (by simpa using hl)]
  rw [h1, h2, List.map_map]
  have hp : ∀ b ∈ (vs.zip ds).mergeSort (dataLe false fun b => toPy b.2), Rep u G b.2 b.1 := fun b hb => by
    have hb' : b ∈ vs.zip ds := (List.mergeSort_perm _ _).mem_iff.mp hb
    obtain ⟨i, hi⟩ := List.getElem?_of_mem hb'
    rw [List.getElem?_zip_eq_some] at hi
    obtain ⟨v, hv, rv⟩ := r.get hi.2
    rw [hi.1] at hv; cases hv
    exact rv
  generalize (vs.zip ds).mergeSort (dataLe false fun b => toPy b.2) = l at hp
  induction l with
  | nil => simp [RepL]
  | cons b l ih => exact ⟨b.1, _, rfl, hp b List.mem_cons_self, ih fun c hc => hp c (List.mem_cons_of_mem _ hc)⟩
def sortedD : List D → Option D := oneD fun
  | .lst ds => if sortOk ds = true then some (.lst (sortL ds)) else none
  | _ => none
theorem sortOk_prop {ds : List D} (h : sortOk ds = true) : AllAlike (toPyL ds) ∧ MH.SortableE (toPyL ds) ∧ (∀ p ∈ toPyL ds, p.depth ≤ 64) ∧ ∀ d ∈ ds, okPy d = true := by
  unfold sortOk at h
  simp only [Bool.and_eq_true, Bool.or_eq_true, List.all_eq_true] at h
  obtain ⟨⟨h1, h2⟩, h3⟩ := h
  refine ⟨fun p hp q hq => ?_, ?_, fun p hp => ?_, h3⟩
  · obtain ⟨d, hd, rfl⟩ := mem_toPyL hp
    obtain ⟨e, he, rfl⟩ := mem_toPyL hq
    exact h1 d hd e he
  · rcases h2 with h2 | h2
    · refine .inl fun p hp => ?_
      obtain ⟨d, hd, rfl⟩ := mem_toPyL hp
      have := h2 d hd
      cases d with
      | tup xs => exact ⟨toPyL xs, by simp [toPy]⟩
      | _ => cases this
    · refine .inr fun p hp => ?_
      obtain ⟨d, hd, rfl⟩ := mem_toPyL hp
      have := h2 d hd
      cases d with
      | int _ => exact ⟨by simp [toPy], fun xs => by simp [toPy]⟩
      | str _ => exact ⟨by simp [toPy], fun xs => by simp [toPy]⟩
      | bl _ => exact ⟨by simp [toPy], fun xs => by simp [toPy]⟩
      | lst _ => exact ⟨by simp [toPy], fun xs => by simp [toPy]⟩
      | _ => cases this
  · obtain ⟨d, hd, rfl⟩ := mem_toPyL hp
    exact SeqAt.depth_of_shaped (h3 d hd)
theorem sortOk0_prop {ds : List D} (h : sortOk0 ds = true) : AllAlike (toPyL ds) ∧ Sortable (toPyL ds) ∧ (∀ p ∈ toPyL ds, p.depth ≤ 64) ∧ ∀ d ∈ ds, okPy d = true := by
  unfold sortOk0 at h
  simp only [Bool.and_eq_true, Bool.or_eq_true, List.all_eq_true] at h
  obtain ⟨⟨h1, h2⟩, h3⟩ := h
  refine ⟨fun p hp q hq => ?_, ?_, fun p hp => ?_, h3⟩
  · obtain ⟨d, hd, rfl⟩ := mem_toPyL hp
    obtain ⟨e, he, rfl⟩ := mem_toPyL hq
    exact h1 d hd e he
  · rcases h2 with h2 | h2
    · refine .inl fun p hp => ?_
      obtain ⟨d, hd, rfl⟩ := mem_toPyL hp
      have := h2 d hd
      cases d with
      | tup xs => cases xs with
        | nil => cases this
        | cons x xs => exact ⟨toPy x, toPyL xs, by simp [toPy, toPyL]⟩
      | _ => cases this
    · refine .inr fun p hp => ?_
      obtain ⟨d, hd, rfl⟩ := mem_toPyL hp
      have := h2 d hd
      cases d with
      | int _ => exact ⟨by simp [toPy], fun xs => by simp [toPy]⟩
      | str _ => exact ⟨by simp [toPy], fun xs => by simp [toPy]⟩
      | bl _ => exact ⟨by simp [toPy], fun xs => by simp [toPy]⟩
      | lst _ => exact ⟨by simp [toPy], fun xs => by simp [toPy]⟩
      | _ => cases this
  · obtain ⟨d, hd, rfl⟩ := mem_toPyL hp
    exact SeqAt.depth_of_shaped (h3 d hd)
theorem rc_sorted : RzC u (MH.rSortD u.K) sortedD := rc_one fun x d z G H Q r hz eg k => by
  cases d with
  | lst ds =>
    simp only at hz
    split at hz
    · cases hz
      rename_i hs
      obtain ⟨h1, h2, h3, h4⟩ := sortOk_prop hs
      obtain ⟨a, vs, rfl, a1, a2⟩ := rep_lst.mp r
      exact ⟨a, vs, toPyL ds, rfl, SqL.of (eg _ _ a1), rep_dpL ds (canAll h4) a2 eg, h1, h2, h3, fun p hp => Kon.new k eg hp (rep_lst.mpr ⟨p, _, rfl, upd_same, RepL.mono (Ex.upd (eg.free hp)) _ (sort_rep a2)⟩)⟩
    · cases hz
  | _ => cases hz
end
end ML
end
section
set_option Elab.async false
set_option linter.all false
set_option maxRecDepth 100000
set_option maxHeartbeats 2000000
set_option autoImplicit false
namespace MH
open PySem PySem.Spec PyProof.Rows L2
open PySem.W (EachIs AllAlike Sortable dataLe)
/-- list(d), sorted(d), d with tuples as keys -/
def rListT : List V → Hp → VK → Prop := fun xs H Q => ∃ d kvs, xs = [V.ref d] ∧ Rd H d (.dT kvs) ∧ ∀ p bs, H p = none → IsKeys H kvs bs → Q (.ref p) (upd H p (.lst (bs.map V.ref)))
def keyPy (k : List Key) : PyData := .tuple (k.map fun x => match x with | .inl i => .int i | .inr z => .str z)
def rSortT : List V → Hp → VK → Prop := fun xs H Q => ∃ (d : Addr) (kvs : List (List Key × V)), xs = [V.ref d] ∧ Rd H d (.dT kvs) ∧ AllAlike (kvs.map fun p => keyPy p.1) ∧
  ∀ p (bs : List Addr), H p = none → IsKeys H kvs bs → Q (.ref p) (upd H p (.lst (((bs.zip kvs).mergeSort (dataLe false fun b => keyPy b.2.1)).map fun b => V.ref b.1)))
theorem key_reads {K : PySem.W.Frag} {H : Hp} : ∀ (k : List Key), DpAll K H (k.map kV) (k.map fun x => match x with | .inl i => PyData.int i | .inr z => PyData.str z)
  | [] => .nil
  | .inl i :: k => .cons (.int i) (key_reads k)
  | .inr z :: k => .cons (.str z) (key_reads k)
theorem isKeys_len {H : Hp} {kvs : List (List Key × V)} {bs : List Addr} (h : IsKeys H kvs bs) : kvs.length = bs.length := Paired.length h
theorem isKeys_each {X : Cx} {pins : List (Addr × Obj)} {σ : L2.St} {H : Hp} {s : Shared} (I : Inv X pins σ H s) : ∀ {kvs : List (List Key × V)} {bs : List Addr}, IsKeys H kvs bs →
    EachIs (fun (v : Value) (b : Addr × (List Key × V)) => v = .ref b.1) (bs.map Value.ref) (bs.zip kvs) ∧ EachIs (fun (v : Value) (b : Addr × (List Key × V)) => ∃ as, Reads s.heap v (keyPy b.2.1) as) (bs.map Value.ref) (bs.zip kvs)
  | _, _, .nil => ⟨.nil, .nil⟩
  | _, _, .cons h t => by
    obtain ⟨h1, h2⟩ := isKeys_each I t
    exact ⟨.cons rfl h1, .cons (Dp.reads I _ _ _ (.tup (SqT.of h) (key_reads _)) rfl) h2⟩
theorem each_refs {γ : Type} : ∀ {out : List Value} {l : List (Addr × γ)}, EachIs (fun (v : Value) (b : Addr × γ) => v = .ref b.1) out l → Vals (l.map fun b => V.ref b.1) out
  | _, _, .nil => .nil
  | _, _, .cons h t => by subst h; exact .cons rfl (each_refs t)
theorem cr_sortT {X : Cx} {k : Nat} (hr : Room k X.A) (hcalm : X.calm = true) : CallR X (.builtin "sorted") rSortT := by
  intro pins s σ H xs us Q I r h
  obtain ⟨d, kvs, rfl, hd, hal, q⟩ := h
  obtain ⟨u, rfl, rx⟩ := r.one
  cases rx
  obtain ⟨z, hs, ks, pr, o, es, ep, ho, hx, hdt, he, hn⟩ := (show ObjOk X.prog X.w H s.heap d (.dT kvs) from hd.ok I.hok)
  have l1 : es.size = ks.length := size_of_entries he
  have l2 : kvs.length = ks.length := Paired.length pr
  have hkeys := isKeys_of pr
  refine Calls.call_function_entry PyProof.Rows.kind_sorted PyProof.Rows.plain_sorted PyProof.Rows.entry_sorted (PyProof.Rows.args_sorted1 _) ?_
  unfold Builtin.«sorted»
  refine wpAny_bind (m := checkCount "sorted" 1 1 _) (wpAny_pure ?_)
  refine wpAny_bind (PySem.W.kdu_collect (A := X.A.in1) (kdl_raw hs hx hdt) (I.ok.hd hcalm) ho (by omega) fun h' tk acc hk it => ?_)
  have ea : acc.toList = ks.map fun x => Value.ref x.2.1 := by
    have hl : acc.toList.length = ks.length := by rw [Array.length_toList, it.1]; exact l1
    apply List.ext_getElem?
    intro j
    rw [List.getElem?_map]
    cases hj : acc.toList[j]? with
    | none =>
      have h1 := List.getElem?_eq_none_iff.mp hj
      rw [List.getElem?_eq_none (by omega)]
      rfl
    | some v =>
      obtain ⟨en, hen, hv⟩ := it.2 j v (by rw [← Array.getElem?_toList]; exact hj)
      have qe := entry_at he j
      rw [hen] at qe
      cases hb : ks[j]? with
      | none =>
        rw [hb] at qe
        exact nomatch (show some en = none from qe)
      | some b =>
        rw [hb] at qe
        have e2 : en = entryOfKey (tupleKind (mixKind X.prog X.w)) b := Option.some.inj qe
        rw [hv, e2]
        rfl
  generalize hbs : (ks.map fun x => x.2.1) = bs at hkeys
  have eb : acc.toList = bs.map Value.ref := by rw [ea, ← hbs, List.map_map]; rfl
  have I1 : Inv X pins σ H { s with heap := h', toks := tk } := I.kept hk
  have hbl : bs.length = ks.length := by rw [← hbs, List.length_map]
  have hacl : acc.toList.length ≤ sizeLine := by rw [eb, List.length_map, hbl]; omega
  refine wpAny_bind (wpAny_newList ?_ hacl)
  have hoL : (h'.push (seqObj "list" acc.toList.toArray 0)).get? h'.objs.size = some (seqObj "list" acc.toList.toArray 0) := Heap.get?_push_size _ rfl
  show wpAny _ _ _ _ _ { s with heap := h'.push (seqObj "list" acc.toList.toArray 0), toks := tk }
  obtain ⟨e1, e2⟩ := isKeys_each I1 hkeys
  rw [← eb] at e1 e2
  have er' : EachIs (fun v b => ∃ as, Reads (PySem.W.sortingHeap (h'.push (seqObj "list" acc.toList.toArray 0)) h'.objs.size acc.toList) v (keyPy b.2.1) as) acc.toList (bs.zip kvs) :=
    e2.mono fun _ _ ⟨as, r⟩ => ⟨as, PyProof.Rows.Reads.keeps (fun b o e => PySem.W.sortingHeap_old (Nat.ne_of_lt (Heap.lt_size e)) (Heap.get?_push_of_some _ e)) r⟩
  have ez : (bs.zip kvs).map (fun b => keyPy b.2.1) = kvs.map fun p => keyPy p.1 := by
    have : (bs.zip kvs).map (fun b => b.2) = kvs := by
      rw [List.map_snd_zip]
      have := isKeys_len hkeys; omega
    conv => rhs; rw [← this, List.map_map]
    rfl
  have hlz : (bs.zip kvs).length = acc.toList.length := e1.length.symm
  have S := sortsAt (prog := X.prog) (w := X.w) (A := X.A.in1.in1) (s := { s with heap := PySem.W.sortingHeap (h'.push (seqObj "list" acc.toList.toArray 0)) h'.objs.size acc.toList, toks := tk })
    (PySem.W.each_map (R := fun v d => ∃ as, Reads (PySem.W.sortingHeap (h'.push (seqObj "list" acc.toList.toArray 0)) h'.objs.size acc.toList) v d as) (fun b : Addr × (List Key × V) => keyPy b.2.1) er') (by rw [ez]; exact hal) (.inl fun p hp => by
      obtain ⟨b, _, rfl⟩ := List.mem_map.1 hp
      exact ⟨_, rfl⟩) (fun p hp => by
      obtain ⟨b, _, rfl⟩ := List.mem_map.1 hp
      have h1 : (keyPy b.2.1).depth ≤ 1 := by
        unfold keyPy
        simp only [PyData.depth]
        have : ∀ l : List Key, PyData.depthAll (l.map fun x => match x with | .inl i => PyData.int i | .inr z => PyData.str z) = 0 := by
          intro l
          induction l with
          | nil => rfl
          | cons x l ih => cases x <;> simp [PyData.depthAll, PyData.depth, ih]
        rw [this]; omega
      have := hr.un
      show X.A.units + 1 + 1 + _ < _
      omega)
  refine wpAny_bind (wpAny_holding (wpAny_call_entry PyProof.Rows.slot_list_sort ⟨_, hoL, rfl⟩ PyProof.Rows.entry_list_sort
    (PySem.W.list_sort_vals (s := { s with heap := h'.push (seqObj "list" acc.toList.toArray 0), toks := tk }) hoL S hacl ⟨_, rfl, ?_⟩) (PyProof.Rows.args_list_sort _)))
  generalize hout : PySem.W.sortVals (PySem.W.dataKind (PySem.W.sortingHeap (h'.push (seqObj "list" acc.toList.toArray 0)) h'.objs.size acc.toList) ((bs.zip kvs).map fun b => keyPy b.2.1)) false acc.toList acc.toList = out
  have so := PySem.W.sortVals_data false (enc := fun b : Addr × (List Key × V) => keyPy b.2.1) e1 er' (by rw [ez]; exact hal)
  rw [hout] at so
  obtain ⟨e', he'⟩ := PyProof.Rows.sortedHeap_at (vs := acc.toList) (out := out.toArray) hoL
  have hlen : (((bs.zip kvs).mergeSort (dataLe false fun b => keyPy b.2.1)).map fun b => V.ref b.1).length ≤ sizeLine := by
    rw [List.length_map, List.length_mergeSort, hlz]; exact hacl
  refine wpAny_pure ⟨_, rfl, .ref h'.objs.size, upd H h'.objs.size (.lst (((bs.zip kvs).mergeSort (dataLe false fun b => keyPy b.2.1)).map fun b => V.ref b.1)), I1.laid (t' := tk) (fun b u e => ?_) (Nat.le_refl _)
    (show ObjOk X.prog X.w _ _ _ (.lst (((bs.zip kvs).mergeSort (dataLe false fun b => keyPy b.2.1)).map fun b => V.ref b.1)) from ⟨hlen, out, e', each_refs so, he'⟩), rfl, q _ _ (I1.hok.fresh (Nat.le_refl _)) hkeys⟩
  have hb : b < h'.objs.size := Heap.lt_size e
  rw [PyProof.Rows.sortedHeap_old (Nat.ne_of_lt hb) (by rw [size_push']; exact Nat.lt_succ_of_lt hb)]
  exact Heap.get?_push_of_some _ e
/-- sorted(a tuple of alike data) -/
def rSortU (K : PySem.W.Frag) : List V → Hp → VK → Prop := fun xs H Q => ∃ (a : Addr) (vs : List V) (ps : List PyData), xs = [.ref a] ∧ SqT K H a vs ∧ DpAll K H vs ps ∧ AllAlike ps ∧ SortableE ps ∧ (∀ p ∈ ps, p.depth ≤ 64) ∧
  ∀ p, H p = none → Q (.ref p) (upd H p (.lst (((vs.zip ps).mergeSort (dataLe false fun b => b.2)).map (·.1))))
theorem cr_sortU {X : Cx} {k : Nat} (hr : Room k X.A) : CallR X (.builtin "sorted") (rSortU X.K) := by
  intro pins s σ H xs us Q I r h
  obtain ⟨a, vs, ps, rfl, hs, hd, hal, hk, hdp, q⟩ := h
  obtain ⟨its, rv, ⟨o, ho, hc, n, hdt⟩, hz⟩ := I.tuple hs
  rw [Vals.ref1 r]
  refine Calls.call_function_entry PyProof.Rows.kind_sorted PyProof.Rows.plain_sorted PyProof.Rows.entry_sorted (PyProof.Rows.args_sorted1 _) ?_
  unfold Builtin.«sorted»
  refine wpAny_bind (m := checkCount "sorted" 1 1 _) (wpAny_pure ?_)
  have hle := rv.length
  refine wpAny_bind (wpAny_collect_seq a (.inr rfl) ho hc hdt (fun h' hkp => ?_) (by rw [List.size_toArray]; omega))
  have eit : its.toArray.toList = its := by simp
  rw [eit]
  have I1 : Inv X pins σ H { s with heap := h' } := I.kept (t' := s.toks) hkp
  have hacl : its.length ≤ sizeLine := by omega
  refine wpAny_bind (wpAny_newList ?_ hacl)
  have hoL : (h'.push (seqObj "list" its.toArray 0)).get? h'.objs.size = some (seqObj "list" its.toArray 0) := Heap.get?_push_size _ rfl
  show wpAny _ _ _ _ _ { s with heap := h'.push (seqObj "list" its.toArray 0) }
  obtain ⟨e1, e2⟩ := dpAll_each I1 hd rv
  have er' : EachIs (fun v b => ∃ as, Reads (PySem.W.sortingHeap (h'.push (seqObj "list" its.toArray 0)) h'.objs.size its) v b.2 as) its (vs.zip ps) :=
    e2.mono fun _ _ ⟨as, r⟩ => ⟨as, PyProof.Rows.Reads.keeps (fun b o e => PySem.W.sortingHeap_old (Nat.ne_of_lt (Heap.lt_size e)) (Heap.get?_push_of_some _ e)) r⟩
  have el := dpAll_len hd
  have ez : (vs.zip ps).map (fun b => b.2) = ps := zip_snd el
  have hlz : (vs.zip ps).length = its.length := e1.length.symm
  have S := sortsAt (prog := X.prog) (w := X.w) (A := X.A.in1.in1) (s := { s with heap := PySem.W.sortingHeap (h'.push (seqObj "list" its.toArray 0)) h'.objs.size its })
    (PySem.W.each_map (R := fun v d => ∃ as, Reads (PySem.W.sortingHeap (h'.push (seqObj "list" its.toArray 0)) h'.objs.size its) v d as) (fun b : V × PyData => b.2) er') (by rw [ez]; exact hal) (by rw [ez]; exact hk) (fun p hp => by
      rw [ez] at hp
      have := hdp p hp
      have := hr.un
      show X.A.units + 1 + 1 + _ < _
      omega)
  refine wpAny_bind (wpAny_holding (wpAny_call_entry PyProof.Rows.slot_list_sort ⟨_, hoL, rfl⟩ PyProof.Rows.entry_list_sort
    (PySem.W.list_sort_vals (s := { s with heap := h'.push (seqObj "list" its.toArray 0) }) hoL S hacl ⟨_, rfl, ?_⟩) (PyProof.Rows.args_list_sort _)))
  generalize hout : PySem.W.sortVals (PySem.W.dataKind (PySem.W.sortingHeap (h'.push (seqObj "list" its.toArray 0)) h'.objs.size its) ((vs.zip ps).map fun b => b.2)) false its its = out
  have so := PySem.W.sortVals_data false (enc := fun b : V × PyData => b.2) e1 er' (by rw [ez]; exact hal)
  rw [hout] at so
  obtain ⟨e', he'⟩ := PyProof.Rows.sortedHeap_at (vs := its) (out := out.toArray) hoL
  have hlen : (((vs.zip ps).mergeSort (dataLe false fun b => b.2)).map (·.1)).length ≤ sizeLine := by
    rw [List.length_map, List.length_mergeSort, hlz]; exact hacl
  refine wpAny_pure ⟨_, rfl, .ref h'.objs.size, upd H h'.objs.size (.lst (((vs.zip ps).mergeSort (dataLe false fun b => b.2)).map (·.1))), I1.laid (t' := s.toks) (fun b u e => ?_) (Nat.le_refl _)
    (show ObjOk X.prog X.w _ _ _ (.lst (((vs.zip ps).mergeSort (dataLe false fun b => b.2)).map (·.1))) from ⟨hlen, out, e', each_vals so, he'⟩), rfl, q _ (I1.hok.fresh (Nat.le_refl _))⟩
  have hb : b < h'.objs.size := Heap.lt_size e
  rw [PyProof.Rows.sortedHeap_old (Nat.ne_of_lt hb) (by rw [size_push']; exact Nat.lt_succ_of_lt hb)]
  exact Heap.get?_push_of_some _ e
def rSortDI : List V → Hp → VK → Prop := fun xs H Q => ∃ (a : Addr) (kvs : List (Key × V)) (ks : List Int), xs = [.ref a] ∧ Rd H a (.dK kvs) ∧ kvs.map (·.1) = ks.map Sum.inl ∧ ks.length < 64 ∧
    ∀ (ys : List Int) (p : Addr), ys.Perm ks → ys.Pairwise (· ≤ ·) → H p = none → Q (.ref p) (upd H p (.lst (ys.map V.int)))
def rSortA (K : PySem.W.Frag) : List V → Hp → VK → Prop := fun xs H Q => rSortD K xs H Q ∨ rSortDI xs H Q ∨ rSortT xs H Q ∨ rSortU K xs H Q
theorem cr_sortA {X : Cx} {k : Nat} (hr : Room k X.A) (hc : X.calm = true) : CallR X (.builtin "sorted") (rSortA X.K) := (cr_sortD hr).or ((call_sortedDI hc).or ((cr_sortT hr hc).or (cr_sortU hr)))
def rLenA (K : PySem.W.Frag) (C : Addr) (sp : Sp) : List V → Hp → VK → Prop := fun xs H Q => (∃ x n, xs = [x] ∧ LenV K x H n ∧ Q (.int n) H) ∨ rLenO C sp xs H Q
theorem call_lenA {X : Cx} {k : Nat} {f C : Addr} {fd : FuncData} {ps : List Str} {sp : Sp} (m : Meth X.K C "__len__" f) (F : FnOk X.prog X.w X.K X.mg X.base CX0 k f fd ps sp) (hr : Room (k + 1) X.A) (hb : Binds X.K fd ps []) : CallR X (.builtin "len") (rLenA X.K C sp) := call_len.or (call_lenO m F hr hb)
end MH
namespace ML
open PySem PySem.Spec PyProof.Rows L2
section
variable {u : Uv} {W : WX} {b : List Nat} {B G0 G G' H H' : Hp} {σ : L2.St} {ε : Env}
/-! ### sorted, a dict of ints among what is sorted -/
def keyInts : List Key → Option (List Int)
  | [] => some []
  | .inl i :: ks => (keyInts ks).map fun l => i :: l
  | .inr _ :: _ => none
theorem keyInts_map : ∀ {ks : List Key} {ns : List Int}, keyInts ks = some ns → ks = ns.map Sum.inl
  | [], ns, h => by cases h; rfl
  | .inl i :: ks, ns, h => by
    simp only [keyInts] at h
    cases hk : keyInts ks with
    | none => rw [hk] at h; cases h
    | some l => rw [hk] at h; cases h; rw [keyInts_map hk]; rfl
  | .inr _ :: _, ns, h => by cases h
def sortI (ns : List Int) : List Int := ns.mergeSort (fun a b => decide (a ≤ b))
theorem sortI_of {ys ns : List Int} (p : ys.Perm ns) (h : ys.Pairwise (· ≤ ·)) : ys = sortI ns := by
  have h1 : (sortI ns).Pairwise (· ≤ ·) := by
    have := List.pairwise_mergeSort (le := fun a b : Int => decide (a ≤ b)) (fun a b c h1 h2 => by simp only [decide_eq_true_eq] at *; omega) (fun a b => by simp only [Bool.or_eq_true, decide_eq_true_eq]; omega) ns
    exact this.imp (by intro a b h; simpa using h)
  exact List.Perm.eq_of_pairwise (le := (· ≤ ·)) (fun a b _ _ h1 h2 => by omega) h h1 (p.trans (List.mergeSort_perm _ _).symm)
/-! ### dicts with tuples as keys -/
def keyD : Key → D
  | .inl i => .int i
  | .inr z => .str z
def tupD (k : List Key) : D := .tup (k.map keyD)
theorem rep_keys : ∀ (k : List Key), RepL u G (k.map keyD) (k.map kV)
  | [] => by simp [RepL]
  | .inl i :: k => ⟨_, _, rfl, rep_int.mpr rfl, rep_keys k⟩
  | .inr z :: k => ⟨_, _, rfl, rep_str.mpr rfl, rep_keys k⟩
def okT (ks : List (List Key)) : Bool := ks.all fun k => ks.all fun k' => PySem.W.alike (MH.keyPy k) (MH.keyPy k')
def sortT (ks : List (List Key)) : List (List Key) := ks.mergeSort (PySem.W.dataLe false MH.keyPy)
/-- G, and what H has at bs -/
def learn (G H : Hp) (bs : List Addr) : Hp := fun a => if a ∈ bs then H a else G a
theorem learn_ex {bs : List Addr} (e : Ex G H) : Ex G (learn G H bs) := fun a o h => by
  unfold learn; split
  · exact e a o h
  · exact h
theorem learn_gh {bs : List Addr} (e : Ex G H) : Ex (learn G H bs) H := fun a o h => by
  unfold learn at h; split at h
  · exact h
  · exact e a o h
theorem learn_nw {bs : List Addr} (e : Ex G H) (hb : ∀ b ∈ bs, ∃ vs, H b = some (.tup vs)) : Nw H G (learn G H bs) := fun a o h => by
  unfold learn
  by_cases ha : a ∈ bs
  · obtain ⟨vs, q⟩ := hb a ha
    rw [h] at q
    exact .inr ⟨vs, by cases q; rfl⟩
  · exact .inl (if_neg ha)
theorem keys_tup {kvs : List (List Key × V)} {bs : List Addr} (h : IsKeys H kvs bs) : ∀ b ∈ bs, ∃ vs, H b = some (.tup vs) := by
  induction h with
  | nil => intro b hb; cases hb
  | cons p t ih =>
    intro b hb
    rcases List.mem_cons.1 hb with rfl | hb
    · exact ⟨_, p⟩
    · exact ih b hb
theorem keys_zip {kvs : List (List Key × V)} {bs : List Addr} (h : IsKeys H kvs bs) : ∀ z ∈ bs.zip kvs, z.1 ∈ bs ∧ H z.1 = some (.tup (z.2.1.map kV)) := by
  induction h with
  | nil => intro z hz; simp at hz
  | cons p t ih =>
    intro z hz
    rcases List.mem_cons.1 hz with rfl | hz
    · exact ⟨by simp, p⟩
    · obtain ⟨h1, h2⟩ := ih z hz
      exact ⟨by simp [h1], h2⟩
theorem rep_refs {bs : List Addr} (e : Ex G H) : ∀ (l : List (Addr × (List Key × V))), (∀ z ∈ l, z.1 ∈ bs ∧ H z.1 = some (.tup (z.2.1.map kV))) → RepL u (learn G H bs) (l.map fun z => tupD z.2.1) (l.map fun z => V.ref z.1)
  | [], _ => by simp [RepL]
  | z :: l, h => by
    obtain ⟨h1, h2⟩ := h z (by simp)
    refine ⟨_, _, rfl, rep_tup.mpr ⟨z.1, _, rfl, ?_, rep_keys _⟩, rep_refs e l fun y hy => h y (by simp [hy])⟩
    unfold learn
    rw [if_pos h1]; exact h2
theorem zip_keys {ks : List (List Key)} {ws : List V} {bs : List Addr} (h : ks.length = ws.length) (hb : bs.length = ks.length) : (bs.zip (ks.zip ws)).map (fun z => z.2.1) = ks := by
  have : (bs.zip (ks.zip ws)).map (fun z => z.2) = ks.zip ws := List.map_snd_zip (by rw [List.length_zip]; omega)
  have e : (bs.zip (ks.zip ws)).map (fun z => z.2.1) = ((bs.zip (ks.zip ws)).map (fun z => z.2)).map (·.1) := by rw [List.map_map]; rfl
  rw [e, this]
  exact List.map_fst_zip (by omega)
def sortAD : List D → Option D := oneD fun
  | .lst ds => if sortOk ds = true then some (.lst (sortL ds)) else none
  | .dk ks _ => (keyInts ks).bind fun ns => if ns.length < 64 then some (.lst ((sortI ns).map .int)) else none
  | .dt ks _ => if okT ks = true then some (.lst ((sortT ks).map tupD)) else none
  | .tup ds => if sortOk ds = true then some (.lst (sortL ds)) else none
  | _ => none
theorem zip_fst {α β : Type} : ∀ {ks : List α} {ws : List β}, ks.length = ws.length → (ks.zip ws).map (·.1) = ks
  | [], [], _ => rfl
  | _ :: _, _ :: _, h => by simp only [List.zip_cons_cons, List.map_cons]; rw [zip_fst (by simpa using h)]
  | [], _ :: _, h => by cases h
  | _ :: _, [], h => by cases h
theorem rc_sortA : RzC u (MH.rSortA u.K) sortAD := rc_one fun x d z G H Q r hz eg k => by
  cases d with
  | lst ds => exact .inl (rc_sorted [x] [.lst ds] z G H Q (RepL.one r) hz eg k)
  | dk ks ws =>
    simp only at hz
    cases hk : keyInts ks with
    | none => rw [hk] at hz; cases hz
    | some ns =>
      rw [hk] at hz
      simp only [Option.bind_some] at hz
      split at hz
      · cases hz
        simp only [Rep] at r
        obtain ⟨a, vs, rfl, a1, a2, a3⟩ := r
        refine .inr (.inl ⟨a, _, ns, rfl, .inl (eg _ _ a1), ?_, by assumption, fun ys p h1 h2 hp => ?_⟩)
        · rw [zip_fst a2]; exact keyInts_map hk
        · rw [sortI_of h1 h2]
          exact Kon.new k eg hp (rep_lst.mpr ⟨p, _, rfl, upd_same, repL_ints⟩)
      · cases hz
  | dt ks ws =>
    simp only at hz
    split at hz
    · rename_i hok
      cases hz
      simp only [Rep] at r
      obtain ⟨a, vs, rfl, a1, a2, a3⟩ := r
      refine .inr (.inr (.inl ⟨a, ks.zip vs, rfl, .inl (eg _ _ a1), ?_, fun p bs hp hk => ?_⟩))
      · intro x hx y hy
        obtain ⟨kv, h1, rfl⟩ := List.mem_map.1 hx
        obtain ⟨kv', h1', rfl⟩ := List.mem_map.1 hy
        simp only [okT, List.all_eq_true] at hok
        exact hok _ (List.of_mem_zip h1).1 _ (List.of_mem_zip h1').1
      · have hbl : bs.length = ks.length := by
          have := MH.isKeys_len hk
          rw [List.length_zip] at this; omega
        have es : (sortT ks).map tupD = ((bs.zip (ks.zip vs)).mergeSort (PySem.W.dataLe false fun b => MH.keyPy b.2.1)).map fun z => tupD z.2.1 := by
          have e1 : sortT ks = ((bs.zip (ks.zip vs)).mergeSort (PySem.W.dataLe false fun b => MH.keyPy b.2.1)).map fun z => z.2.1 := by
            unfold sortT
            conv => lhs; rw [← zip_keys (bs := bs) a2 hbl]
            rw [List.map_mergeSort]
            intro x _ y _
            rfl
          rw [e1, List.map_map]; rfl
        have rr := rep_refs (u := u) eg ((bs.zip (ks.zip vs)).mergeSort (PySem.W.dataLe false fun b => MH.keyPy b.2.1)) fun z hz => keys_zip hk z (List.mem_mergeSort.1 hz)
        have eL := learn_gh (bs := bs) eg
        have eN : Ex (learn G H bs) (upd (learn G H bs) p (.lst (((bs.zip (ks.zip vs)).mergeSort (PySem.W.dataLe false fun b => MH.keyPy b.2.1)).map fun b => V.ref b.1))) := Ex.upd (eL.free hp)
        refine k _ (upd (learn G H bs) p _) _ ((learn_ex eg).trans eN) (Ex.upd hp) eL.both ((learn_nw eg (keys_tup hk)).trans (Nw.of fun x o h => upd_ne (ne_of_none h hp))) (rep_lst.mpr ⟨p, _, rfl, upd_same, ?_⟩)
        rw [es]
        exact RepL.mono eN _ rr
    · cases hz
  | tup ds =>
    simp only at hz
    split at hz
    · cases hz
      rename_i hs
      obtain ⟨h1, h2, h3, h4⟩ := sortOk_prop hs
      obtain ⟨a, vs, rfl, a1, a2⟩ := rep_tup.mp r
      exact .inr (.inr (.inr ⟨a, vs, toPyL ds, rfl, ex_t eg a1, rep_dpL ds (canAll h4) a2 eg, h1, h2, h3, fun p hp => Kon.new k eg hp (rep_lst.mpr ⟨p, _, rfl, upd_same, RepL.mono (Ex.upd (eg.free hp)) _ (sort_rep a2)⟩)⟩))
    · cases hz
  | _ => cases hz
/-! ### fields -/
def lookN (fs : List Str) (ds : List D) (f : Str) : Option D := valD fs ds f
theorem lookup_val {α : Type} [BEq α] [LawfulBEq α] [DecidableEq α] {β : Type} {k : α} : ∀ {l : List (α × β)}, l.lookup k = (l.find? fun p => decide (p.1 = k)).map (·.2)
  | [] => rfl
  | (a, b) :: l => by
    by_cases h : a = k
    · subst h; simp [List.lookup, List.find?_cons]
    · have h' : (k == a) = false := by simpa using (Ne.symm h)
      simp only [List.lookup, h', List.find?_cons, decide_eq_false h, lookup_val]
theorem lookN_rep {fs : List Str} {ds : List D} {ws : List V} {f : Str} {d : D} (r : RepL u G ds ws) (hl : fs.length = ws.length) (h : lookN fs ds f = some d) : ∃ v, (fs.zip ws).lookup f = some v ∧ Rep u G d v := by
  rcases valD_rep (k := f) r hl with ⟨z1, z2⟩ | ⟨d', v, z1, z2, z3⟩
  · unfold lookN at h; rw [z1] at h; cases h
  · unfold lookN at h
    rw [z1] at h
    cases h
    exact ⟨v, by rw [lookup_val]; exact z2, z3⟩
/-- e.f of an instance of class c -/
def fldF (g : Env → Out D) (c : Nat) (f : Str) : Env → Out D := fun ε => (g ε).bnd fun d ε1 => match d with
  | .obj c' fs ds => if c' = c then Out.opt (lookN fs ds f) ε1 else .bad
  | _ => .bad
theorem rz_fld {te : TE} {g : Env → Out D} {c : Nat} {f : Str} (h : RzE u W te g) (hc : Cls u.K (u.cl c)) (hn : NoAttr u.K (u.cl c) f) : RzE u W (tFld u.K te f) (fldF g c f) := fun B G0 G H σ ε Q R q =>
  h _ _ _ _ _ _ _ R (q.bnd.mono fun d ε1 G1 H1 e1 R1 h1 v rv => by
    cases d with
    | obj c' fs ds =>
      by_cases hcc : c' = c
      · subst hcc
        simp only [if_true] at h1
        obtain ⟨z, hz, h2⟩ := h1.opt
        simp only [Rep] at rv
        obtain ⟨a, dx, ws, rfl, a1, a2, a3⟩ := rv
        obtain ⟨y, y1, y2⟩ := lookN_rep a3 a2 hz
        exact ⟨a, _, dx, _, y, rfl, R1.gh _ _ a1, hc, hn, y1, h2.ret R1 y y2⟩
      · simp only [if_neg hcc] at h1; exact h1.elim
    | _ => exact h1.elim)
/-- x.f = e, x one's own -/
theorem putF_new {f : Str} {v : V} : ∀ {l : List (Str × V)}, (∀ p ∈ l, p.1 ≠ f) → putF f v l = l ++ [(f, v)]
  | [], _ => rfl
  | (g, x) :: r, h => by
    have h1 : g ≠ f := h (g, x) List.mem_cons_self
    simp only [putF, if_neg h1, List.cons_append]
    rw [putF_new fun p hp => h p (List.mem_cons_of_mem _ hp)]
theorem putF_set {f : Str} {d : D} {v : V} (rv : Rep u G d v) : ∀ {fs : List Str} {ds : List D} {ws : List V}, RepL u G ds ws → fs.length = ws.length → ∃ (gs : List Str) (es : List D) (ws' : List V), gs = (if f ∈ fs then fs else fs ++ [f]) ∧ RepL u G es ws' ∧ gs.length = ws'.length ∧ putF f v (fs.zip ws) = gs.zip ws' ∧ es = (if f ∈ fs then ds.set (fs.idxOf f) d else ds ++ [d])
  | [], [], ws, r, h => by
    simp only [RepL] at r; subst r
    exact ⟨[f], [d], [v], by simp, RepL.one rv, rfl, rfl, by simp⟩
  | [], _ :: _, ws, r, h => by
    simp only [RepL] at r
    obtain ⟨_, _, rfl, _⟩ := r
    cases h
  | g :: fs, [], ws, r, h => by simp only [RepL] at r; subst r; cases h
  | g :: fs, e :: ds, ws, r, h => by
    simp only [RepL] at r
    obtain ⟨w, rr, rfl, r1, r2⟩ := r
    by_cases hg : g = f
    · subst hg
      refine ⟨g :: fs, d :: ds, v :: rr, by simp, ⟨v, rr, rfl, rv, r2⟩, by simpa using h, by simp [putF], by simp⟩
    · obtain ⟨gs, es, ws', h1, h2, h3, h4, h5⟩ := putF_set rv r2 (fs := fs) (by simpa using h)
      have hm : (f ∈ g :: fs) ↔ f ∈ fs := by simp [Ne.symm hg]
      refine ⟨g :: gs, e :: es, w :: ws', ?_, ⟨w, ws', rfl, r1, h2⟩, by simp [h3], (by show (if g = f then _ else (g, w) :: putF f v (fs.zip rr)) = _; rw [if_neg hg, h4]; rfl), ?_⟩
      · by_cases hf : f ∈ fs
        · rw [if_pos (hm.mpr hf), h1, if_pos hf]
        · rw [if_neg fun q => hf (hm.mp q), h1, if_neg hf]; rfl
      · by_cases hf : f ∈ fs
        · rw [if_pos (hm.mpr hf), h5, if_pos hf]; simp [List.idxOf_cons, beq_false_of_ne hg]
        · rw [if_neg fun q => hf (hm.mp q), h5, if_neg hf]; rfl
def putN (fs : List Str) (ds : List D) (f : Str) (d : D) : List Str × List D := (if f ∈ fs then fs else fs ++ [f], if f ∈ fs then ds.set (fs.idxOf f) d else ds ++ [d])
def sfldF (i : Nat) (c : Nat) (f : Str) (g : Env → Out D) : Env → SO := fun ε => (g ε).toS fun d ε1 => match ownAt i ε1 with
  | some (.obj c' fs ds) => if c' = c ∧ fs.length < 100 then .nx (ε1.set i (.ow (.obj c' (putN fs ds f d).1 (putN fs ds f d).2))) else .bad
  | _ => .bad
theorem rs_fld {i c : Nat} {f : Str} {te : TE} {g : Env → Out D} (h : RzE u W te g) (hc : Cls u.K (u.cl c)) (hn : NoAttr u.K (u.cl c) f) : RzS u W b (sFld u.K (tVar i) te f) (sfldF i c f g) := fun B G0 G H σ ε N R q =>
  h _ _ _ _ _ _ _ R (q.bnd.mono fun d ε1 G1 H1 e1 R1 h1 v rv => by
    cases e0 : ownAt i ε1 with
    | none => simp only [e0] at h1; exact h1.elim
    | some x =>
      cases x with
      | obj c' fs ds =>
        simp only [e0] at h1
        by_cases hcc : c' = c ∧ fs.length < 100
        · rw [if_pos hcc] at h1
          obtain ⟨rfl, hl⟩ := hcc
          obtain ⟨l, a1, a2, a3, dx, ws, a4, a5, a6⟩ := R1.own (ownAt_some e0)
          obtain ⟨gs, es, ws', p1, p2, p3, p4, p5⟩ := putF_set (f := f) rv a6 a5
          refine ⟨_, a1, l, _, dx, _, rfl, a4, hc, hn, ?_, ?_⟩
          · rw [List.length_zip]; omega
          · rw [p4]
            have eg : (putN fs ds f d).1 = gs := p1.symm
            refine h1.next (R1.put (ownAt_some e0) a1 a2 ⟨dx, ws', by rw [eg]; exact upd_same, ?_, ?_⟩) .refl
            · rw [eg]; exact p3
            · show RepL u G1 (putN fs ds f d).2 ws'
              rw [show (putN fs ds f d).2 = es from p5.symm]; exact p2
        · rw [if_neg hcc] at h1; exact h1.elim
      | _ => simp only [e0] at h1; exact h1.elim)
/-- C(..): a new instance, made by its __init__ -/
def makeM (c n : Nat) (fa : Env → Out (List D)) (F : D → List D → RtM) : Env → Out Sl := fun ε => (fa ε).bnd fun ds ε1 => if ds.length = n then (match F (.obj c [] []) ds with
  | .ret .non d1 => .ok (.ow d1) ε1
  | _ => .bad) else .bad
theorem rzm_make {c n : Nat} {E : XK} {ta : TA} {fa : Env → Out (List D)} {F : D → List D → RtM} (ha : RzA u W ta fa) : RzM u W (tMake (u.cl c) (SpM u n F) [] E ta) (makeM c n fa F) := fun B G0 G H σ ε Q R q =>
  ha _ _ _ _ _ _ _ R (q.bnd.mono fun ds ε1 G1 H1 e1 R1 h1 vs rvs x dx hx hdx hne => by
    by_cases hn : ds.length = n
    · simp only [if_pos hn] at h1
      have fx := R1.free hx
      have eB : Ex H1 (upd H1 dx (.own x)) := Ex.upd hdx
      have hBx : upd H1 dx (HO.own x) x = none := by rw [upd_ne (Ne.symm hne)]; exact hx
      have eH : Ex (upd H1 dx (.own x)) (upd (upd H1 dx (.own x)) x (.ins (u.cl c) dx [])) := Ex.upd hBx
      refine ⟨upd H1 dx (.own x), G1, x, .obj c [] [], ds, vs, hn, by simp, (R1.gh.trans eB).trans eH, eH, fx.1, hBx, ⟨dx, [], upd_same, rfl, by simp [RepL]⟩, rvs, ?_⟩
      cases ef : F (.obj c [] []) ds with
      | bad => rw [ef] at h1; exact h1.elim
      | ret d d1 =>
        rw [ef] at h1
        cases d with
        | non =>
          intro v G' H' eg nw gh bh hg ho rv
          exact ⟨rep_non.mp rv, h1.ret' eg (R1.grow eg (nw.less eB) (eB.trans bh) gh) _ ⟨x, rfl, hg, fx.2.1, ho, apart_new R1 hx⟩⟩
        | _ => exact h1.elim
    · simp only [if_neg hn] at h1; exact h1.elim)
/-! ### len, instances of class c among what is asked -/
def lenA (c : Nat) (F : List D → Rt) : List D → Option D := oneD fun d => match d with
  | .obj c' fs ds => if c' = c then (match F [d] with
    | .ret (.int n) => if 0 ≤ n ∧ n < 2 ^ 63 then some (.int n) else none
    | _ => none) else none
  | d => (lenN d).map fun n => .int (n : Nat)
theorem rc_lenA {c : Nat} {F : List D → Rt} : RzC u (MH.rLenA u.K (u.cl c) (SpF u 1 F)) (lenA c F) := rc_one fun x d z G H Q r hz eg k => by
  cases d with
  | obj c' fs ds =>
    simp only at hz
    split at hz
    · rename_i hc
      subst hc
      have r0 := r
      simp only [Rep] at r
      obtain ⟨a, dx, ws, rfl, a1, a2, a3⟩ := r
      refine .inr ⟨a, dx, _, rfl, eg _ _ a1, H, G, [.obj c' fs ds], rfl, eg, Ex.refl _, RepL.one r0, ?_⟩
      cases ef : F [.obj c' fs ds] with
      | bad => rw [ef] at hz; cases hz
      | exn x => rw [ef] at hz; cases hz
      | ret d1 =>
        rw [ef] at hz
        cases d1 with
        | int n =>
          simp only at hz
          split at hz
          · cases hz
            rename_i hn
            exact fun v G' H' e1 nw e2 e3 rv => ⟨n, rep_int.mp rv, hn.1, hn.2, k v G' H' e1 e3 e2 nw rv⟩
          · cases hz
        | _ => cases hz
    · cases hz
  | _ =>
    first
      | (cases hz; done)
      | exact .inl (rc_len [x] _ z G H Q (RepL.one r) hz eg k)
/-! ### join -/
def strsD : List D → Option (List Str)
  | [] => some []
  | .str s :: ds => (strsD ds).map fun l => s :: l
  | _ => none
theorem strsD_rep : ∀ {ds : List D} {vs : List V} {bs : List Str}, RepL u G ds vs → strsD ds = some bs → vs = bs.map V.str
  | [], vs, bs, r, h => by simp only [RepL] at r; cases h; exact r
  | d :: ds, vs, bs, r, h => by
    simp only [RepL] at r
    obtain ⟨v, rr, rfl, r1, r2⟩ := r
    cases d with
    | str i =>
      simp only [strsD] at h
      cases hs : strsD ds with
      | none => rw [hs] at h; cases h
      | some l => rw [hs] at h; cases h; rw [rep_str.mp r1, strsD_rep r2 hs]; rfl
    | _ => cases h
def joinS (a : Str) (ys : List Str) : Option D := if (ys.map (·.length)).sum + ys.length * a.length ≤ 100000 then some (.str (Txt.join a ys)) else none
def joinF (f g : Env → Out D) : Env → Out D := fun ε => (f ε).bnd fun a ε1 => match a with
  | .str a => (g ε1).bnd fun d ε2 => (match d with
    | .lst ds => Out.opt ((strsD ds).bind (joinS a)) ε2
    | .tup ds => Out.opt ((strsD ds).bind (joinS a)) ε2
    | _ => .bad)
  | _ => .bad
theorem joinS_some {ds : List D} {a : Str} {z : D} (h : (strsD ds).bind (joinS a) = some z) : ∃ ys, strsD ds = some ys ∧ (ys.map (·.length)).sum + ys.length * a.length ≤ 16777216 ∧ z = .str (Txt.join a ys) := by
  cases hs : strsD ds with
  | none => rw [hs] at h; cases h
  | some ys =>
    rw [hs] at h
    simp only [Option.bind_some, joinS] at h
    split at h
    · cases h; exact ⟨ys, rfl, by omega, rfl⟩
    · cases h
theorem rz_join {K : PySem.W.Frag} (hK : K = u.K) {to te : TE} {f g : Env → Out D} (ho : RzE u W to f) (he : RzE u W te g) : RzE u W (tM1 (fun x xs H Q => ∃ a p, ∃ ys : List Str, x = .str a ∧ xs = [.ref p] ∧ (SqL K H p (ys.map V.str) ∨ SqT K H p (ys.map V.str)) ∧
      (ys.map (·.length)).sum + ys.length * a.length ≤ 16777216 ∧ Q (.str (Txt.join a ys)) H) to te) (joinF f g) := fun B G0 G H σ ε Q R q => by
  subst hK
  refine ho _ _ _ _ _ _ _ R (q.bnd.mono fun a ε1 G1 H1 e1 R1 h1 v rv => ?_)
  cases a with
  | str zs =>
    have ev := rep_str.mp rv
    subst ev
    refine ⟨⟨zs, rfl⟩, he _ _ _ _ _ _ _ R1 (h1.bnd.mono fun d ε2 G2 H2 e2 R2 h2 w rw => ?_)⟩
    cases d with
    | lst ds =>
      obtain ⟨z, hz, h3⟩ := h2.opt
      obtain ⟨ys, y1, y2, rfl⟩ := joinS_some hz
      obtain ⟨p, vs, rfl, a1, a2⟩ := rep_lst.mp rw
      exact ⟨zs, p, ys, rfl, rfl, .inl (SqL.of (by rw [← strsD_rep a2 y1]; exact R2.gh _ _ a1)), y2, h3.ret R2 _ (rep_str.mpr rfl)⟩
    | tup ds =>
      obtain ⟨z, hz, h3⟩ := h2.opt
      obtain ⟨ys, y1, y2, rfl⟩ := joinS_some hz
      obtain ⟨p, vs, rfl, a1, a2⟩ := rep_tup.mp rw
      exact ⟨zs, p, ys, rfl, rfl, .inr (by rw [← strsD_rep a2 y1]; exact ex_t R2.gh a1), y2, h3.ret R2 _ (rep_str.mpr rfl)⟩
    | _ => exact h2.elim
  | _ => exact h1.elim
end
end ML
end
section
set_option Elab.async false
set_option linter.all false
set_option maxRecDepth 100000
set_option maxHeartbeats 2000000
set_option autoImplicit false
namespace MH
open PySem PySem.Spec PyProof.Rows L2
/-! ### rules with the written part named -/
section
variable {X : Cx} {K : PySem.W.Frag}
theorem pe_fldK (hK : X.K = K) {e : Expr} {f : Str} {pos : Pos} {ta : TE} (he : PE X e ta) (hb : attributeBase e f X.env (eval e X.env) = eval e X.env) : PE X (.Attribute e f pos) (tFld K ta f) := by subst hK; exact pe_fld he hb
theorem pg_tupK (hK : X.K = K) {es : List Expr} {k : Nat} {t : TGs} {n : Nat} {pos : Pos} (hc : X.calm = true) (h : PGs X es t) (hn : (assignEach es X.env).length = n := by rfl) (hst : (assignEach es X.env).findIdx? (·.1) = none := by rfl) : PG X (.Tuple es k pos) (gTup K n t) := by subst hK; exact pg_tup hc h hn hst
theorem pi_anyK (hK : X.K = K) {tg l : Expr} {tl : TE} (hl : PE X l tl) : PI X tg l (iAny K tl) := by subst hK; exact pi_any hl
theorem pi_enumK (hK : X.K = K) {e : Expr} {ta : TA} {p pos tpos : Pos} {elts : List Expr} {kk : Nat} (hg : Gl X "enumerate") (hm : X.mg "enumerate" = none) (ha : PA X [e] ta) (hs : starEach [e] X.env = [(false, eval e X.env)] := by rfl) :
    PI X (.Tuple elts kk tpos) (.Call (.Name "enumerate" p) [e] [] pos) (iEnumA K ta) := by subst hK; exact pi_enumA hg hm ha hs
theorem pa_starK (hK : X.K = K) {e : Expr} {es : List Expr} {te : TE} {t : TA} {p : Pos} (hc : X.calm = true) (he : PE X e te) (hr : PA X es t) (hs : starEach (.Starred e p :: es) X.env = (true, eval e X.env) :: starEach es X.env := by rfl) : PA X (.Starred e p :: es) (tStarA K te t) := by subst hK; exact pa_starA hc he hr hs
def rJoin (K : PySem.W.Frag) : V → List V → Hp → VK → Prop := fun x xs H Q => ∃ a p, ∃ ys : List Str, x = .str a ∧ xs = [.ref p] ∧ (SqL K H p (ys.map V.str) ∨ SqT K H p (ys.map V.str)) ∧ (ys.map (·.length)).sum + ys.length * a.length ≤ 16777216 ∧ Q (.str (Txt.join a ys)) H
theorem pe_joinK (hK : X.K = K) {o e : Expr} {to te : TE} {apos pos : Pos} (ho : PE X o to) (he : PE X e te) (hs : starEach [e] X.env = [(false, eval e X.env)] := by rfl) (hbase : attributeBase o "join" X.env (eval o X.env) = eval o X.env := by rfl) (hline : (apos.endLine == pos.line) = true := by rfl) :
    PE X (.Call (.Attribute o "join" apos) [e] [] pos) (tM1 (rJoin K) to te) := by subst hK; exact pe_join ho he hs hbase hline
def rLen0 (K : PySem.W.Frag) : List V → Hp → VK → Prop := fun xs H Q => ∃ x n, xs = [x] ∧ LenV K x H n ∧ Q (.int n) H
def rTuple (K : PySem.W.Frag) : List V → Hp → VK → Prop := fun xs H Q => ∃ p ys, xs = [.ref p] ∧ ((SqL K H p ys ∧ ∀ l, H l = none → Q (.ref l) (upd H l (.tup ys))) ∨ (SqT K H p ys ∧ Q (.ref p) H))
def rList (K : PySem.W.Frag) : List V → Hp → VK → Prop := fun xs H Q => ∃ p ys, xs = [.ref p] ∧ (SqL K H p ys ∨ SqT K H p ys) ∧ ∀ l, H l = none → Q (.ref l) (upd H l (.lst ys))
end
end MH
namespace ML
open PySem PySem.Spec PyProof.Rows L2
/-! ### the head by facts, with further looks at the written part -/
def obsX (fa : List He.Fa) (fn : List He.DefD) (ck : List (PySem.W.Frag → Bool)) (K : PySem.W.Frag) : He.AlD × Bool := (He.obsD fa fn K, ck.all fun c => c K)
def obsXG (n : Nat) (fa : List He.Fa) (fn : List He.DefD) (ck : List (PySem.W.Frag → Bool)) (g : Addr → Option Obj) : He.AlD × Bool := obsX fa fn ck (He.frG g (He.asD g n))
def hookX (n : Nat) (fa : List He.Fa) (fn : List He.DefD) (ck : List (PySem.W.Frag → Bool)) : PySem.W.Hook where
  α := He.AlD × Bool
  obs := fun s => obsXG n fa fn ck s.heap.get?
  val := fun _ => (He.valD fn, true)
  says := fun _ h => ∃ K : PySem.W.Frag, K.In h ∧ He.SaysD fa fn K ∧ (ck.all fun c => c K) = true
  of := fun _ _ e => ⟨_, He.frG_in, congrArg Prod.fst e, congrArg Prod.snd e⟩
  keeps := fun _ _ _ ⟨K, hK, c⟩ k => ⟨K, PySem.W.Frag.In.keeps hK k, c⟩
theorem obsXG_eq {n : Nat} {fa : List He.Fa} {fn : List He.DefD} {ck : List (PySem.W.Frag → Bool)} {g : Addr → Option Obj} {s : Shared} (h : ∀ a, g a = s.heap.get? a) : obsXG n fa fn ck g = (hookX n fa fn ck).obs s := by
  have e : g = s.heap.get? := funext h
  rw [e]; rfl
def clsChk (K : PySem.W.Frag) (C : Addr) : Bool :=
  He.eqO (PySem.W.findIn K (.ref C) "__class__") (some (some (.builtin "object.__class__"))) && (He.eqO (PySem.W.specialIn K (.builtin "object.__class__") "__get__") (some (some (.builtin "getset_descriptor.__get__"))) &&
  (decide (PySem.W.takesIn K (.builtin "object.__class__") = some true) && (decide (PySem.W.mroIn K C (.type "object") = some true) &&
  ((["int", "bool", "str", "tuple", "list", "dict"].all fun T => decide (PySem.W.kitOne K (.ref C) (.type T) = some false)) && (decide (PySem.W.kitOne K (.ref C) (.ref C) = some true) &&
  (["NoneType", "int", "bool", "str", "tuple", "list", "dict"].all fun T => decide (PySem.W.kitOne K (.type T) (.ref C) = some false)))))))
theorem clsOk_of {K : PySem.W.Frag} {C : Addr} (c : Cls K C) (h : clsChk K C = true) : ClsOk K C := by
  unfold clsChk at h
  simp only [Bool.and_eq_true, decide_eq_true_eq, List.all_eq_true] at h
  obtain ⟨h1, h2, h3, h4, h5, h6, h7⟩ := h
  exact ⟨c, He.eqO_ok h1, He.eqO_ok h2, h3, h4, h5, h6, h7⟩
/-- a def: its promise, where it stands (L), that it may be called -/
def FnX (P : Program) (w : World) (K : PySem.W.Frag) (mg : Str → Option Value) (base : Heap) (k : Nat) (ps : List Str) (sp : Sp) (L : Addr → Prop) : Prop :=
  ∃ f fd, FnOk P w K mg base CX0 k f fd ps sp ∧ L f ∧ PySem.W.keepIn K (.ref f) = true ∧ Binds K fd ps []
/-- the law: its mirror gives True at every script -/
theorem law_sp {u : Uv} {F : List D → Rt} {n : Nat} (h : ∀ ns : List Int, ns.length ≤ n → F [.scr ns] = .ret (.bl true)) (H : Hp) (a : Addr) (ns : List Int) (hl : ns.length ≤ n) (hS : SqL u.K H a (ns.map V.int)) :
    SpF u 1 F [.ref a] H (fun v _ => v = .bl true) fun _ _ _ => False := by
  refine ⟨fun _ => none, H, [.scr ns], rfl, Ex.refl _, (fun _ _ h => nomatch h), RepL.one (rep_scr.mpr ⟨a, rfl, hS⟩), ?_⟩
  rw [h ns hl]
  exact fun v G' H' _ _ _ _ r => rep_bl.mp r
section
variable {u : Uv} {W : WX} {b : List Nat} {B G0 G G' H H' : Hp} {σ : L2.St} {ε : Env}
theorem rz_joinK {to te : TE} {f g : Env → Out D} (ho : RzE u W to f) (he : RzE u W te g) : RzE u W (tM1 (MH.rJoin u.K) to te) (joinF f g) := rz_join rfl ho he
/-- a, b = x, y by a tuple -/
theorem rs_parT {i j : Nat} {ta tb : TE} {f g : Env → Out Sl} (ha : RzM u W ta f) (hb : RzM u W tb g) (hk : i ∉ b := by decide) (hk' : j ∉ b := by decide) :
    RzS u W b (tAsg (tTup (tCons ta (tCons tb tNil))) (gTup u.K 2 (gCons (gName i) (gCons (gName j) gNil)))) (parF i j f g) := fun B G0 G H σ ε N R q => by
  have wrap : ∀ (v w : V) (H2 : Hp), (∀ p, H2 p = none → N.nx ((σ.set i (some v)).set j (some w)) (upd H2 p (.tup [v, w]))) → [v, w].length ≤ sizeLine ∧ ∀ p, H2 p = none → gTup u.K 2 (gCons (gName i) (gCons (gName j) gNil)) (.ref p) σ (upd H2 p (.tup [v, w])) N.nx := fun v w H2 h =>
    ⟨sz_of (by simp), fun p hp => ⟨p, [v, w], rfl, SqT.of upd_same, rfl, v, [w], rfl, w, [], rfl, rfl, h p hp⟩⟩
  exact ha _ _ _ _ _ _ _ R (q.bnd.mono fun s ε1 G1 H1 e1 R1 h1 v sv => by
      cases s with
      | no => exact sv.elim
      | fz d =>
        refine hb _ _ _ _ _ _ _ R1 (h1.bnd.mono fun t ε2 G2 H2 e2 R2 h2 w tw => wrap v w H2 fun p hp => ?_)
        have R3 := (R2.lay hp (.tup [v, w])).setF i (sv.mono e2)
        cases t with
        | no => exact tw.elim
        | fz d' => exact h2.next (R3.setF j tw) ((kp_set hk).trans (kp_set hk'))
        | ow d' =>
          obtain ⟨l, rfl, hg, hb', w', ap⟩ := tw
          have w2 : Own u G2 (upd H2 p (.tup [v, .ref l])) l d' := w'.mono (Ex.refl _) fun o z => Ex.upd hp _ _ z
          exact h2.next (R3.setO j hg hb' w2 (apart_set ap)) ((kp_set hk).trans (kp_set hk'))
      | ow d =>
        obtain ⟨l, rfl, hg, hb', w', ap⟩ := sv
        obtain ⟨o, ho⟩ := Own.has w'
        have R1' := R1.aside hg ho ap
        refine hb _ _ _ _ _ _ _ R1' ((h1.bnd.less (Ex.upd hb')).mono fun t ε2 G2 H2 e2 R2 h2 w tw => wrap (.ref l) w H2 fun p hp => ?_)
        have R2' := R2.lay hp (.tup [.ref l, w])
        obtain ⟨b1, b2, b3, b4⟩ := R2'.back hb' (R1.g0.free hg) (w'.ntup ho)
        have w2 : Own u G2 (upd H2 p (.tup [.ref l, w])) l d := w'.mono e2 fun x q => by rw [ho] at q; cases q; exact b2
        have R3 := b4.setO i b1 hb' w2 b3
        cases t with
        | no => exact tw.elim
        | fz d' => exact h2.next (R3.setF j tw) ((kp_set hk).trans (kp_set hk'))
        | ow d' =>
          obtain ⟨m, rfl, hg3, hb3, w3, ap3⟩ := tw
          have hm : l ≠ m := fun q => by subst q; rw [upd_same] at hb3; cases hb3
          have hbm : B m = none := by rw [upd_ne (Ne.symm hm)] at hb3; exact hb3
          have w4 : Own u G2 (upd H2 p (.tup [.ref l, .ref m])) m d' := w3.mono (Ex.refl _) fun o z => Ex.upd hp _ _ z
          exact h2.next (R3.setO j hg3 hbm w4 (apart_setO ap3 hm)) ((kp_set hk).trans (kp_set hk')))
theorem rt_yes : RzT u W tYes tYesF := fun B G0 G H σ ε Q R q => q.ret R
def fuel : Nat := 100000
end
end ML
end
section
set_option Elab.async false
set_option linter.all false
set_option maxRecDepth 100000
set_option maxHeartbeats 2000000
set_option autoImplicit false
/-! ## min(a list of alike data) -/
namespace MH
open PySem PySem.Spec PyProof.Rows L2
open PySem.W (AllAlike alike dataLt)
open PySem.SeqAt (RcLt)
section
variable {prog : Program} {w : World} {A : Around} {R : Result → Shared → Prop} {J : Addr} {fp wr : List Addr} {n : Nat} {P : Nat → Value → Prop} {St : Nat → Heap → Prop}
/-- h's objects stand in k, too -/
abbrev Stands (h k : Heap) : Prop := ∀ b o, h.get? b = some o → k.get? b = some o
theorem minLoop (W : Walks prog w A.in1 J fp wr n P St) (bt : Nat → Nat → Bool) (hb : Heap) (cmp : ∀ i j vi vj s', P i vi → P j vj → Stands hb s'.heap → RcLt A.in1 s' vi vj (bt i j))
    (Z : Addr) (zf : Z ∉ fp) (jw : ∀ b ∈ wr, hb.get? b = none) (z0 : hb.get? Z = none) : ∀ (k j : Nat) (s : Shared) (vb : Value) (c : Nat), n - (j + 1) = k → j + 1 ≤ n → St (j + 1) s.heap → P (argBest bt j) vb → Stands hb s.heap →
    s.heap.get? Z = some { cls := .type "list", dict := none, data := .seq #[vb, vb] c, slots := #[] } →
    (∀ v h' tk, P (argBest bt (n - 1)) v → Stands hb h' → R (.ok (.ret v)) { s with heap := h', toks := tk }) →
    codeAny (model prog w) A (.builtin "min.loop" ⟨[.ref J, .none, .ref Z], []⟩) R s := by
  have zw : Z ∉ wr := fun h => zf (W.sub _ h)
  have nm : (toString "min" ++ toString ".loop" : String) = "min.loop" := by decide
  have stay : ∀ {k k' : Heap}, Stands hb k → (∀ b o, b ∉ wr → k.get? b = some o → k'.get? b = some o) → Stands hb k' := fun h1 h2 b o e => h2 b o (fun hw => by rw [jw b hw] at e; cases e) (h1 b o e)
  have upd1 : ∀ {k : Heap} {g : Obj → Obj}, Stands hb k → Stands hb (k.update Z g) := fun h1 b o e => (Heap.get?_update_other _ _ (fun h : Z = b => by subst h; rw [z0] at e; cases e)).trans (h1 b o e)
  intro k
  induction k with
  | zero =>
    intro j s vb c hk hj st pb old hZ hR
    have hin : j + 1 = n := by omega
    refine codeAny_builtin F.entry_min_loop ?_
    rw [Around.under_plainId F.plain_min_loop _]
    show wpAny _ A.in1 (seqItems? (.ref Z) >>= _) _ _ s
    refine wpAny_bind (wpAny_seqItems hZ rfl ?_)
    show wpAny _ A.in1 (tryCatch (pyNext (.ref J)) _ >>= _) _ _ s
    refine wpAny_bind (wpAny_tryCatch (W.done s _ _ (hin ▸ st) fun h' tk kept => ?_))
    have hZ' := kept Z _ zw hZ
    show wpAny _ A.in1 (updateSeq Z (fun _ => #[]) >>= _) _ _ _
    refine wpAny_bind ?_
    refine wpAny_updateSeq hZ' rfl (wpAny_bind (wpAny_letGo (wpAny_pure ?_)))
    exact hR vb _ tk (by rw [← hin]; exact pb) (upd1 (stay old kept))
  | succ k ih =>
    intro j s vb c hk hj st pb old hZ hR
    have hlt : j + 1 < n := by omega
    refine codeAny_builtin F.entry_min_loop ?_
    rw [Around.under_plainId F.plain_min_loop _]
    show wpAny _ A.in1 (seqItems? (.ref Z) >>= _) _ _ s
    refine wpAny_bind (wpAny_seqItems hZ rfl ?_)
    show wpAny _ A.in1 (tryCatch (pyNext (.ref J)) _ >>= _) _ _ s
    refine wpAny_bind (wpAny_tryCatch (W.item (j + 1) s _ _ hlt st fun v h' tk pv st' kept => ?_))
    have hZ' := kept Z _ zw hZ
    have old' := stay old kept
    show wpAny _ A.in1 (tryCatch (holding [v, v] (richCompare .Lt v vb >>= _)) _ >>= _) _ _ _
    refine wpAny_bind (wpAny_tryCatch (wpAny_holding (wpAny_bind (cmp (j + 1) (argBest bt j) v vb { s with heap := h', toks := tk } pv pb old' prog w _ _ ?_))))
    refine wpAny_bind (wpAny_holding (wpAny_truthy_bool ?_))
    refine wpAny_bind (wpAny_letGo (wpAny_pure ?_))
    cases eb : bt (j + 1) (argBest bt j) with
    | true =>
      simp only [if_true]
      refine wpAny_bind ?_
      refine wpAny_updateSeq hZ' rfl (wpAny_bind (wpAny_letGo ?_))
      rw [nm]
      refine wpAny_pure ⟨plainId_quiet F.plain_min_loop _, ih (j + 1) _ v _ (by omega) hlt (W.frame _ _ _ st' fun b hf o e => ?_) (by simp only [argBest, eb, if_true]; exact pv) (upd1 old') (Heap.get?_update_self _ hZ' rfl) fun v' h2 tk2 p2 o2 => hR v' h2 tk2 p2 o2⟩
      exact (Heap.get?_update_other _ _ (fun h : Z = b => zf (by rw [h]; exact hf))).trans e
    | false =>
      simp only [Bool.false_eq_true, if_false]
      refine wpAny_bind (wpAny_letGo ?_)
      rw [nm]
      exact wpAny_pure ⟨plainId_quiet F.plain_min_loop _, ih (j + 1) _ vb c (by omega) hlt st' (by simp only [argBest, eb, Bool.false_eq_true, if_false]; exact pb) old' hZ' fun v' h2 tk2 p2 o2 => hR v' h2 tk2 p2 o2⟩
end
section
variable {prog : Program} {w : World} {A : Around} {E : Value → Shared → Prop} {s : Shared}
theorem minData {l : Addr} {its : List Value} {Q : Value → Shared → Prop} (hh : A.handled = none) (hl : s.heap.IsList l its.toArray) (hne : 0 < its.length) (bt : Nat → Nat → Bool)
    (cmp : ∀ i j vi vj s', its[i]? = some vi → its[j]? = some vj → Stands s.heap s'.heap → RcLt A.in1 s' vi vj (bt i j))
    (h : ∀ v h' tk, its[argBest bt (its.length - 1)]? = some v → Stands s.heap h' → Q v { s with heap := h', toks := tk }) : wpAny (model prog w) A (call (.builtin "min") [.ref l]) Q E s := by
  have nm : (toString "min" ++ toString ".loop" : String) = "min.loop" := by decide
  refine call_function_tree F.kind_min F.plain_min F.entry_min (F.args_min1 _) ?_
  show wpAny _ A.in1 (Builtin.Builtins.bindParams "min" ["key", "default"] 0 ⟨[], []⟩ >>= _) _ _ s
  refine wpAny_bind (wpAny_of_eq (show Builtin.Builtins.bindParams "min" ["key", "default"] 0 ⟨[], []⟩ = pure [none, none] from rfl) ?_)
  refine wpAny_bind (wpAny_pure ?_)
  have hlt : l < s.heap.objs.size := by obtain ⟨_, e, _⟩ := hl; exact Heap.lt_size e
  refine wpAny_bind (wpAny_pyIter_list hl ?_)
  have W := Walks.list (prog := prog) (w := w) (A := A.in1) hh s.heap.objs.size l (Nat.ne_of_lt hlt) its.toArray
  let it0 : Obj := { cls := .type "list_iterator", data := .fields #[.ref l, .int 0 0] }
  have old1 : Stands s.heap (s.heap.push it0) := fun b o e => Heap.get?_push_of_some _ e
  have st1 : (s.heap.push it0).IsListIter s.heap.objs.size l 0 ∧ (s.heap.push it0).IsList l its.toArray := ⟨⟨_, Heap.get?_push_size _ rfl, rfl, rfl⟩, hl.push _⟩
  have fresh : ∀ a, s.heap.objs.size ≤ a → s.heap.get? a = none := fun a ha => by
    cases e : s.heap.get? a with
    | none => rfl
    | some o => exact absurd (Heap.lt_size e) (Nat.not_lt.mpr ha)
  refine wpAny_bind (wpAny_newObj_type ?_)
  rw [nm]
  refine wpAny_pure ⟨plainId_quiet F.plain_min_loop _, ?_⟩
  have sz : (s.heap.push it0).objs.size = s.heap.objs.size + 1 := Heap.size_push _ _
  have zf : (s.heap.push it0).objs.size ∉ [s.heap.objs.size, l] := by
    rw [sz]
    intro hm
    rcases List.mem_cons.mp hm with e | hm
    · exact Nat.succ_ne_self _ e
    · rcases List.mem_cons.mp hm with e | hm
      · exact Nat.lt_irrefl l (Nat.lt_of_lt_of_le hlt (by rw [← e]; exact Nat.le_succ _))
      · cases hm
  have zw : (s.heap.push it0).objs.size ∉ [s.heap.objs.size] := by
    rw [sz]; simp
  have ze : ∀ c : Nat, ((s.heap.push it0).push { cls := .type "list", dict := none, data := .seq #[] c, slots := #[] }).get? (s.heap.push it0).objs.size = some { cls := .type "list", dict := none, data := .seq #[] c, slots := #[] } := fun c => Heap.get?_push_size _ rfl
  refine codeAny_builtin F.entry_min_loop ?_
  rw [Around.under_plainId F.plain_min_loop _]
  show wpAny _ A.in1 (seqItems? (.ref (s.heap.push it0).objs.size) >>= _) _ _ _
  refine wpAny_bind (wpAny_seqItems (ze _) rfl ?_)
  show wpAny _ A.in1 (tryCatch (pyNext (.ref s.heap.objs.size)) _ >>= _) _ _ _
  refine wpAny_bind (wpAny_tryCatch (W.item 0 _ _ _ (by simpa using hne) (W.frame _ _ _ st1 fun b _ o e => Heap.get?_push_of_some _ e) fun v h' tk pv st' kept => ?_))
  have hZ' := kept _ _ zw (ze _)
  have old2 : Stands s.heap h' := fun b o e => kept b o (by
    intro hm
    simp at hm
    subst hm
    rw [fresh _ (Nat.le_refl _)] at e; cases e) (Heap.get?_push_of_some _ (old1 b o e))
  show wpAny _ A.in1 (updateSeq (s.heap.push it0).objs.size (fun _ => #[v, v]) >>= _) _ _ _
  refine wpAny_bind ?_
  refine wpAny_updateSeq hZ' rfl ?_
  rw [nm]
  have z0 : s.heap.get? (s.heap.push it0).objs.size = none := fresh _ (by rw [sz]; omega)
  refine wpAny_pure ⟨plainId_quiet F.plain_min_loop _, minLoop W bt s.heap (fun i j vi vj s' p q o => cmp i j vi vj s' (by simpa using p) (by simpa using q) o) _ zf (fun b hb => by simp at hb; subst hb; exact fresh _ (Nat.le_refl _)) z0 _ 0 _ v _ rfl (by simpa using Nat.succ_le_of_lt hne) (W.frame _ _ _ st' fun b hf o e => ?_) pv (fun b o e => ?_) (Heap.get?_update_self _ hZ' rfl) fun v' h2 tk2 p2 o2 => h v' h2 tk2 (by simpa using p2) o2⟩
  · exact (Heap.get?_update_other _ _ (fun h : (s.heap.push it0).objs.size = b => zf (by rw [h]; exact hf))).trans e
  · exact (Heap.get?_update_other _ _ (fun h : (s.heap.push it0).objs.size = b => by subst h; rw [z0] at e; cases e)).trans (old2 b o e)
end
end MH
namespace MH
open PySem PySem.Spec PyProof.Rows L2
open PySem.W (EachIs AllAlike Sortable alike dataLt)
theorem eachIs_get {R : Value → V × PyData → Prop} : ∀ {us : List Value} {bs : List (V × PyData)}, EachIs R us bs → us.length = bs.length ∧ ∀ (i : Nat) (v : Value), us[i]? = some v → ∃ b, bs[i]? = some b ∧ R v b
  | _, _, .nil => ⟨rfl, fun i v h => by simp at h⟩
  | _, _, .cons r h => by
    obtain ⟨h1, h2⟩ := eachIs_get h
    refine ⟨by simp [h1], fun i v hi => ?_⟩
    cases i with
    | zero => simp at hi; subst hi; exact ⟨_, rfl, r⟩
    | succ i => simpa using h2 i v (by simpa using hi)
theorem ne_none_of_sortable {ps : List PyData} (h : SortableE ps) {p : PyData} (hp : p ∈ ps) : p ≠ .none := by
  rcases h with h | h
  · obtain ⟨xs, e⟩ := h p hp
    rw [e]; intro h'; cases h'
  · exact (h p hp).1
def ltAt (ps : List PyData) (i j : Nat) : Bool := dataLt (ps.getD i .none) (ps.getD j .none)
/-- min(a list of alike data) -/
def rMinD (K : PySem.W.Frag) : List V → Hp → VK → Prop := fun xs H Q => ∃ (a : Addr) (vs : List V) (ps : List PyData), xs = [.ref a] ∧ SqL K H a vs ∧ DpAll K H vs ps ∧ AllAlike ps ∧ SortableE ps ∧ (∀ p ∈ ps, p.depth ≤ 64) ∧ 0 < vs.length ∧
  ∀ x, vs[argBest (ltAt ps) (vs.length - 1)]? = some x → Q x H
theorem cr_minD {X : Cx} {k : Nat} (hr : Room k X.A) (hc : X.calm = true) : CallR X (.builtin "min") (rMinD X.K) := by
  intro pins s σ H xs us Q I r h
  obtain ⟨a, vs, ps, rfl, hs, hd, ha, hk, hdp, hne, q⟩ := h
  obtain ⟨its, rv, hl, hz⟩ := I.list hs
  rw [Vals.ref1 r]
  obtain ⟨e1, e2⟩ := dpAll_each I hd rv
  have el := dpAll_len hd
  obtain ⟨l1, g1⟩ := eachIs_get e1
  obtain ⟨l2, g2⟩ := eachIs_get e2
  have hli : its.length = vs.length := by rw [l1, List.length_zip, el]; omega
  refine minData (I.ok.hd hc) hl.isList (by omega) (ltAt ps) (fun i j vi vj s' hi hj old => ?_) fun v h' tk hv old => ?_
  · obtain ⟨bi, gi, as, ri⟩ := g2 i vi hi
    obtain ⟨bj, gj, as', rj⟩ := g2 j vj hj
    rw [List.getElem?_zip_eq_some] at gi gj
    have mi : bi.2 ∈ ps := List.mem_of_getElem? gi.2
    have mj : bj.2 ∈ ps := List.mem_of_getElem? gj.2
    have ei : ps.getD i .none = bi.2 := by rw [List.getD_eq_getElem?_getD, gi.2]; rfl
    have ej : ps.getD j .none = bj.2 := by rw [List.getD_eq_getElem?_getD, gj.2]; rfl
    unfold ltAt
    rw [ei, ej]
    refine PySem.W.rcLt_alike bi.2 bj.2 _ _ _ _ _ _ (PyProof.Rows.Reads.keeps old ri) (PyProof.Rows.Reads.keeps old rj) (ha _ mi _ mj) (ne_none_of_sortable hk mi) ?_
    have h1 := hdp _ mi
    have h2 := hr.un
    have h3 : min bi.2.depth bj.2.depth ≤ bi.2.depth := Nat.min_le_left _ _
    have h4 : X.A.in1.units ≤ X.A.units + 3 := by first | exact Nat.le_refl _ | (show _ + _ ≤ _ + 3; omega)
    omega
  · obtain ⟨b, gb, rb⟩ := g1 _ v hv
    rw [List.getElem?_zip_eq_some] at gb
    exact ⟨b.1, H, I.kept old, rb, q b.1 (by rw [← hli]; exact gb.1)⟩
end MH
namespace ML
open PySem PySem.Spec PyProof.Rows L2
section
variable {u : Uv}
def minL (ds : List D) : Option D := ds[argBest (MH.ltAt (toPyL ds)) (ds.length - 1)]?
def minD : List D → Option D := oneD fun
  | .lst ds => if sortOk ds = true ∧ 0 < ds.length then minL ds else none
  | _ => none
theorem rc_minD : RzC u (MH.rMinD u.K) minD := rc_one fun x d z G H Q r hz eg k => by
  cases d with
  | lst ds =>
    simp only at hz
    split at hz
    · rename_i hs
      obtain ⟨h1, h2, h3, h4⟩ := sortOk_prop hs.1
      obtain ⟨a, vs, rfl, a1, a2⟩ := rep_lst.mp r
      have hlen := a2.length
      refine ⟨a, vs, toPyL ds, rfl, SqL.of (eg _ _ a1), rep_dpL ds (canAll h4) a2 eg, h1, h2, h3, by have := hs.2; omega, fun x hx => ?_⟩
      unfold minL at hz
      obtain ⟨v, hv, rv⟩ := a2.get hz
      rw [← hlen, hv] at hx
      cases hx
      exact k _ G H (fun _ _ e => e) (fun _ _ e => e) eg Nw.refl rv
    · cases hz
  | _ => cases hz
end
end ML
end
section
set_option Elab.async false
set_option linter.all false
set_option maxRecDepth 100000
set_option maxHeartbeats 2000000
set_option autoImplicit false
/-! ## several values at once -/
namespace ML
open PySem PySem.Spec PyProof.Rows L2
section
variable {u : Uv} {W : WX} {b : List Nat} {B G0 G G' H H' : Hp} {σ : L2.St} {ε : Env}
def SlVs (u : Uv) (B G H : Hp) (σ : L2.St) (ε : Env) : List Sl → List V → Prop
  | [], vs => vs = []
  | s :: ss, vs => ∃ v r, vs = v :: r ∧ SlV u B G H σ ε v s ∧ SlVs u B G H σ ε ss r ∧ ∀ l d, s = .ow d → v = .ref l → ∀ (k : Nat) (d' : D), ss[k]? = some (.ow d') → r[k]? ≠ some (.ref l)
def RzMs (u : Uv) (W : WX) (ta : TA) (f : Env → Out (List Sl)) : Prop := ∀ B G0 G H σ ε Q, RepE u B G0 G H σ ε → Pst u W B G0 σ G (f ε) (fun ss ε' G' H' => ∀ vs, SlVs u B G' H' σ ε' ss vs → Q vs H') → ta σ H Q
def nilMs : Env → Out (List Sl) := fun ε => .ok [] ε
def consMs (f : Env → Out Sl) (fr : Env → Out (List Sl)) : Env → Out (List Sl) := fun ε => (f ε).bnd fun s ε1 => (fr ε1).bnd fun ss ε2 => .ok (s :: ss) ε2
theorem rms_nil : RzMs u W tNil nilMs := fun B G0 G H σ ε Q R q => q G H (Ex.refl _) R [] rfl
theorem slvs_less {l : Addr} {o : HO} (hb : B l = none) : ∀ {ss : List Sl} {vs : List V}, SlVs u (upd B l o) G H σ ε ss vs → SlVs u B G H σ ε ss vs ∧ ∀ (k : Nat) (d : D), ss[k]? = some (.ow d) → vs[k]? ≠ some (.ref l)
  | [], vs, h => ⟨h, fun k d hk => by simp at hk⟩
  | s :: ss, vs, h => by
    obtain ⟨v, r, rfl, h1, h2, h3⟩ := h
    obtain ⟨i1, i2⟩ := slvs_less hb h2
    cases s with
    | no => exact h1.elim
    | fz d =>
      refine ⟨⟨v, r, rfl, h1, i1, h3⟩, fun k d' hk => ?_⟩
      cases k with
      | zero => simp at hk
      | succ k => simpa using i2 k d' (by simpa using hk)
    | ow d =>
      obtain ⟨m, rfl, hg, hbm, w, ap⟩ := h1
      have hm : m ≠ l := fun q => by subst q; rw [upd_same] at hbm; cases hbm
      have hbm' : B m = none := by rw [upd_ne hm] at hbm; exact hbm
      refine ⟨⟨.ref m, r, rfl, ⟨m, rfl, hg, hbm', w, ap⟩, i1, h3⟩, fun k d' hk => ?_⟩
      cases k with
      | zero => simp; exact hm
      | succ k => simpa using i2 k d' (by simpa using hk)
theorem rms_cons {ta : TE} {tr : TA} {f : Env → Out Sl} {fr : Env → Out (List Sl)} (ha : RzM u W ta f) (hr : RzMs u W tr fr) : RzMs u W (tCons ta tr) (consMs f fr) := fun B G0 G H σ ε Q R q =>
  ha _ _ _ _ _ _ _ R (q.bnd.mono fun s ε1 G1 H1 e1 R1 h1 v sv => by
    cases s with
    | no => exact sv.elim
    | fz d =>
      refine hr _ _ _ _ _ _ _ R1 (h1.bnd.mono fun ss ε2 G2 H2 e2 R2 h2 vs sw => ?_)
      exact h2 G2 H2 (Ex.refl _) R2 _ ⟨v, vs, rfl, sv.mono e2, sw, fun l d e => by cases e⟩
    | ow d =>
      obtain ⟨l, rfl, hg, hb', w', ap⟩ := sv
      obtain ⟨o, ho⟩ := Own.has w'
      have R1' := R1.aside hg ho ap
      refine hr _ _ _ _ _ _ _ R1' ((h1.bnd.less (Ex.upd hb')).mono fun ss ε2 G2 H2 e2 R2 h2 vs sw => ?_)
      obtain ⟨b1, b2, b3, b4⟩ := R2.back hb' (R1.g0.free hg) (w'.ntup ho)
      have w2 : Own u G2 H2 l d := w'.mono e2 fun x q => by rw [ho] at q; cases q; exact b2
      obtain ⟨s1, s2⟩ := slvs_less hb' sw
      exact h2 G2 H2 (Ex.refl _) b4 _ ⟨.ref l, vs, rfl, ⟨l, rfl, b1, hb', w2, b3⟩, s1, fun l' d' e e' k d2 hk => by cases e'; exact s2 k d2 hk⟩)
theorem RepE.setS (R : RepE u B G0 G H σ ε) (i : Nat) {v : V} {s : Sl} (h : SlV u B G H σ ε v s) : RepE u B G0 G H (σ.set i (some v)) (ε.set i s) := by
  cases s with
  | no => exact h.elim
  | fz d => exact R.setF i h
  | ow d =>
    obtain ⟨l, rfl, hg, hb, w, ap⟩ := h
    exact R.setO i hg hb w ap
theorem slv_set {i : Nat} {v w : V} {s t : Sl} (h : SlV u B G H σ ε v s) (k : SlV u B G H σ ε w t) (hd : ∀ l d, s = .ow d → v = .ref l → ∀ d', t = .ow d' → w ≠ .ref l) : SlV u B G H (σ.set i (some v)) (ε.set i s) w t := by
  cases t with
  | no => exact k.elim
  | fz d => exact k
  | ow d =>
    obtain ⟨m, rfl, hg, hb, o, ap⟩ := k
    refine ⟨m, rfl, hg, hb, o, ?_⟩
    cases s with
    | no => exact h.elim
    | fz d' => exact apart_set ap
    | ow d' =>
      obtain ⟨l, rfl, _⟩ := h
      exact apart_setO ap fun q => hd l d' rfl rfl d rfl (by rw [q])
def par3F (i j k : Nat) (f : Env → Out (List Sl)) : Env → SO := fun ε => (f ε).toS fun ss ε1 => match ss with
  | [s, t, r] => .nx (((ε1.set i s).set j t).set k r)
  | _ => .bad
theorem rs_par3 {i j k : Nat} {ta : TA} {f : Env → Out (List Sl)} (ha : RzMs u W ta f) (hi : i ∉ b := by decide) (hj : j ∉ b := by decide) (hk : k ∉ b := by decide) : RzS u W b (tPar3 i j k ta) (par3F i j k f) := fun B G0 G H σ ε N R q =>
  ha _ _ _ _ _ _ _ R (q.bnd.mono fun ss ε1 G1 H1 e1 R1 h1 vs sv => by
    match ss, h1, sv with
    | [s, t, r], h1, sv =>
      obtain ⟨v, vs, rfl, a1, ⟨w, ws, rfl, a2, ⟨x, xs, rfl, a3, e, _⟩, d2⟩, d1⟩ := sv
      cases e
      refine ⟨v, w, x, rfl, ?_⟩
      have R2 := R1.setS i a1
      have a2' := slv_set (i := i) a1 a2 fun l d es ev d' et ew => d1 l d es ev 0 d' (by simp [et]) (by simp [ew])
      have a3' := slv_set (i := i) a1 a3 fun l d es ev d' et ew => d1 l d es ev 1 d' (by simp [et]) (by simp [ew])
      have R3 := R2.setS j a2'
      have a3'' := slv_set (i := j) a2' a3' fun l d es ev d' et ew => d2 l d es ev 0 d' (by simp [et]) (by simp [ew])
      exact h1.next (R3.setS k a3'') (((kp_set hi).trans (kp_set hj)).trans (kp_set hk))
    | [], h1, _ => exact h1.elim
    | [_], h1, _ => exact h1.elim
    | [_, _], h1, _ => exact h1.elim
    | _ :: _ :: _ :: _ :: _, h1, _ => exact h1.elim)
end
end ML
end
section
set_option Elab.async false
set_option linter.all false
set_option maxRecDepth 100000
set_option maxHeartbeats 2000000
set_option autoImplicit false
/-! ## sorted(a list, key=an own def) -/
namespace MH
open PySem PySem.Spec PyProof.Rows L2
open PySem.W (EachIs AllAlike Sortable dataLe sortVals SortsAt dataKind KeyedOut)
section
variable {prog : Program} {w : World} {A : Around} {E : Value → Shared → Prop} {s : Shared} {a kS : Addr} {vs : List Value} {keys : Array Value} {e e1 : Nat} {P : PySem.Fin → Shared → Prop}
/-- all objects but two stay -/
abbrev But2 (x y : Addr) (h k : Heap) : Prop := ∀ b o, b ≠ x → b ≠ y → h.get? b = some o → k.get? b = some o
theorem tailH {st : SortSt} {out : List Value} (nk : s.heap.get? kS = some (seqObj "list" keys e)) (na : s.heap.get? a = some (seqObj "list" #[] e1)) (ne : kS ≠ a) (hsz : keys.size ≤ sizeLine) (hz : out.length ≤ sizeLine) (hfl : failedOf st = none) (ho : (arrOf st).map (·.2) = out.toArray)
    (h : ∀ h' tk c, But2 kS a s.heap h' → h'.get? a = some (seqObj "list" out.toArray c) → P (.done (.ret .none)) { s with heap := h', toks := tk }) :
    wpAny (model prog w) A (ksk_tail a false e1 (.ref kS) st) P E s := by
  have s1 := Heap.SameBut.update s.heap kS (Obj.mapSeq fun _ => (#[] : Array Value))
  have na1 := (s1.2 a ne.symm).trans na
  have s2 := Heap.SameBut.update (s.heap.update kS (Obj.mapSeq fun _ => (#[] : Array Value))) a (Obj.mapSeq fun _ => out.toArray)
  obtain ⟨c2, hc2⟩ : ∃ c2, ((s.heap.update kS (Obj.mapSeq fun _ => (#[] : Array Value))).update a (Obj.mapSeq fun _ => out.toArray)).get? a = some (seqObj "list" out.toArray c2) := ⟨_, get?_update_seq na1 fun _ => out.toArray⟩
  have hz2 : out.toArray.size ≤ sizeLine + 1 := by rw [List.size_toArray]; exact Nat.le_succ_of_le hz
  unfold ksk_tail
  dsimp only
  simp only [Bool.false_eq_true, if_false]
  rw [ho]
  refine wpAny_bind (listUpdate_at nk rfl ?_ hsz (Nat.zero_le _))
  refine wpAny_bind (wpAny_letGo ?_)
  refine wpAny_bind (seqEpoch_at na1 rfl ?_)
  refine wpAny_bind (listUpdate_at na1 rfl ?_ (Nat.zero_le _) hz2)
  rw [hfl]
  simp only [bne_self_eq_false, Bool.false_eq_true, if_false]
  exact wpAny_pure (h _ _ c2 (fun b o hb1 hb2 eb => (s2.2 b hb2).trans ((s1.2 b hb1).trans eb)) hc2)
theorem endH {κ : PyProof.Rows.KeyKind} (nk : s.heap.get? kS = some (seqObj "list" keys e)) (na : s.heap.get? a = some (seqObj "list" #[] e1)) (ne : kS ≠ a) (S : SortsAt prog w A s κ keys.toList) (hsz : keys.size = vs.length) (hZ : vs.length ≤ sizeLine)
    (h : ∀ h' tk c, But2 kS a s.heap h' → h'.get? a = some (seqObj "list" (sortVals κ false keys.toList vs).toArray c) → P (.done (.ret .none)) { s with heap := h', toks := tk }) :
    wpAny (model prog w) A (ksk_end a false vs.toArray e1 (.ref kS) keys) P E s := by
  obtain ⟨kd, h1, h2⟩ := S.kind
  have hkl : keys.toList.length = vs.length := by rw [Array.length_toList]; exact hsz
  have hK : PyProof.Rows.KeysOf κ (keys.zip vs.toArray) := PySem.W.keysOf_zip S.keys
  have hol : (sortVals κ false keys.toList vs).length = vs.length := PySem.W.sortVals_length false hkl
  have hss : (keys.zip vs.toArray).size = vs.length := by rw [Array.size_zip, hsz, List.size_toArray, Nat.min_self]
  have fin : ∀ st' : SortSt, (arrOf st').Perm (keys.zip vs.toArray) → SortedToK κ (arrOf st') (keys.zip vs.toArray).size → Stable κ (arrOf st') (keys.zip vs.toArray) → (arrOf st').map (·.2) = (sortVals κ false keys.toList vs).toArray := by
    intro st' hp hs ht
    have q := PySem.W.sort_out (rev := false) (keys := keys) (items := vs.toArray) (xs := arrOf st') (κ := κ) hK (by simpa using hp) (by simpa using hs) (by simpa using ht)
    have q' := congrArg List.toArray q
    rw [Array.toArray_toList] at q'
    simp only [Bool.false_eq_true, if_false] at q'
    exact q'
  unfold ksk_end
  dsimp only
  simp only [Bool.false_eq_true, if_false]
  by_cases hl2 : vs.toArray.size < 2
  · rw [if_pos hl2, if_pos hl2]
    refine wpAny_bind (wpAny_pure ?_)
    rw [StateT.run_pure]
    refine wpAny_bind (wpAny_pure ?_)
    dsimp only
    refine tailH (st := SortSt.mk' general' (keys.zip vs.toArray) #[] 7 none) nk na ne (by rw [hsz]; exact hZ) (by rw [hol]; exact hZ) rfl (fin _ (Array.Perm.refl _) ?_ (Stable.refl _)) h
    intro i j hij hj
    rw [hss] at hj
    rw [List.size_toArray] at hl2
    have : i = j := by omega
    subst this
    exact KeyOrd.kle_refl _
  · rw [if_neg hl2, if_neg hl2]
    rw [List.size_toArray] at hl2
    refine wpAny_bind (h2 (by omega) _ ?_)
    refine wpAny_bind (wpAny_mono (H.wpS_sortRunsSt (κ := κ) (kd := kd) (a₀ := keys.zip vs.toArray) (st := SortSt.mk' kd (keys.zip vs.toArray) #[] 7 none)
      (Q := fun _ st' => failedOf st' = none ∧ (arrOf st').map (·.2) = (sortVals κ false keys.toList vs).toArray) h1 hK ⟨Array.Perm.refl _, rfl, rfl⟩ rfl (Stable.refl _) (by rw [hss]; omega) fun st' a1 a2 a3 a4 => ⟨a2, fin st' a1 a3 a4⟩) ?_ fun _ _ z => z)
    rintro ⟨⟨⟩, st'⟩ s' ⟨rfl, hf, ho⟩
    exact tailH nk na ne (by rw [hsz]; exact hZ) (by rw [hol]; exact hZ) hf ho h
end
end MH
namespace MH
open PySem PySem.Spec PyProof.Rows L2
open PySem.W (EachIs AllAlike Sortable dataLe sortVals SortsAt dataKind KeyedOut)
/-- the key of each item, one call behind the other -/
def Turns (sp : Sp) : List V → List V → Hp → (List V → Hp → Prop) → Prop
  | [], ks, H, Q => Q ks H
  | v :: vs, ks, H, Q => sp [v] H (fun k H' => Turns sp vs (ks ++ [k]) H' Q) (fun _ _ _ => False)
section
variable {X : Cx} {pins : List (Addr × Obj)} {σ : L2.St} {k : Nat} {f : Addr} {fd : FuncData} {ps : List Str} {sp : Sp}
theorem runIn {H : Hp} {s : Shared} {v : V} {u : Value} {Q : VK} (F : FnOk X.prog X.w X.K X.mg X.base L2.CX0 k f fd ps sp) (hr : Room (k + 1) X.A) (hb : Binds X.K fd ps []) (I : Inv X pins σ H s) (r : RelV v u) (h : sp [v] H Q (fun _ _ _ => False)) :
    wpAny (model X.prog X.w) X.A.in1.in1 (call (.ref f) [u]) (EP X pins σ Q) (fun _ _ => False) s := by
  have r2 : Vals [v] [u] := .cons r .nil
  have hl : ([u] ++ ([] : List Value)).length = ps.length := by rw [List.append_nil, ← r2.length]; exact F.len _ _ _ _ h
  have hb2 := hb s [u] I.kIn hl
  rw [List.append_nil] at hb2
  have rm : Room k X.A.in1.in1 := ⟨hr.hd, by have := hr.dp; show X.A.depth + 3 * k + 5 < _; omega, by have := hr.un; show X.A.units + 1 + 1 + 16 * k + 200 < _; omega⟩
  have e0 : Env0 X.prog X.w X.K X.mg X.base X.A.in1.in1 X.stack s H := ⟨I.ok.frames, I.ok.mod, I.bs, Nat.le_trans I.ok.bsz I.sz, I.stack, I.stkFree, I.hok, I.bare⟩
  refine wpAny_call (codeAny_mono (F.run X.A.in1.in1 X.stack s H ⟨[u], []⟩ [u] [v] Q (fun _ _ _ => False) rm e0 hb2 r2 h) fun r s' hq => ?_)
  cases r with
  | error e => exact hq.elim
  | ok fl =>
    cases fl with
    | ret u => exact I.after hq
    | next => exact False.elim hq
    | brk => exact False.elim hq
    | cont => exact False.elim hq
theorem vals_snoc {xs : List V} {us : List Value} {x : V} {u : Value} (h : Vals xs us) (r : RelV x u) : Vals (xs ++ [x]) (us ++ [u]) := h.append (.cons r .nil)
theorem seq_cell {xs : Array Value} {n : Nat} : ∀ v, (seqObj "list" xs n).data ≠ .cell v := fun v h => by cases h
theorem restH {P : PySem.Fin → Shared → Prop} {E : Value → Shared → Prop} {H : Hp} {s : Shared} {a kS : Addr} {e1 : Nat} {vs : List V} {us : List Value} {Qf : List V → Hp → Prop} (F : FnOk X.prog X.w X.K X.mg X.base L2.CX0 k f fd ps sp) (hr : Room (k + 1) X.A) (hb : Binds X.K fd ps [])
    (k1 : X.s_0.heap.objs.size ≤ kS) (k2 : ∀ x c, X.env.cells.lookup x = some c → c ≠ kS) (k3 : ∀ p ∈ X.pn ++ pins, p.1 ≠ kS) (ne : kS ≠ a) (hz : us.length ≤ sizeLine)
    (I : Inv X (pins ++ [(kS, seqObj "list" #[] 0), (a, seqObj "list" #[] e1)]) σ H s) (r : Vals vs us) (T : Turns sp vs [] H Qf)
    (done : ∀ ks H2 kA e s2, Inv X (pins ++ [(kS, seqObj "list" kA e), (a, seqObj "list" #[] e1)]) σ H2 s2 → Vals ks kA.toList → kA.size = us.length → Qf ks H2 → wpAny (model X.prog X.w) X.A.in1.in1 (ksk_end a false us.toArray e1 (.ref kS) kA) P E s2) :
    wpAny (model X.prog X.w) X.A.in1.in1 (ksk_rest a (.ref f) false us.toArray e1 (.ref kS)) P E s := by
  unfold ksk_rest
  refine wpAny_bind (wpAny_rule ?_)
  first
    | rw [List.forIn_toArray]
    | (rw [← Array.forIn_toList]; simp only [List.toList_toArray])
  refine wpAny_bind (ksk_fold (fun i s' => ∃ ks H' kA e, Inv X (pins ++ [(kS, seqObj "list" kA e), (a, seqObj "list" #[] e1)]) σ H' s' ∧ Vals ks kA.toList ∧ kA.size = i ∧ Turns sp (vs.drop i) ks H' Qf) us 0 s
    ⟨[], H, #[], 0, I, .nil, rfl, by simpa using T⟩ ?step ?fin)
  case step =>
    rintro j x s' hx ⟨ks, H', kA, e, I', rk, hsz, T'⟩
    simp only [Nat.zero_add] at hsz T' ⊢
    have hj : j < us.length := (List.getElem?_eq_some_iff.mp hx).1
    have hjv : j < vs.length := by rw [r.length]; exact hj
    have rj : RelV vs[j] x := by
      obtain ⟨y, hy, ry⟩ := Vals.get r (show vs[j]? = some vs[j] by simp [hjv])
      rw [hx] at hy; cases hy; exact ry
    rw [List.drop_eq_getElem_cons hjv] at T'
    refine wpAny_bind (wpAny_attempt (wpAny_mono (runIn F hr hb I' rj T') (fun v s'' he => ?_) fun _ _ hF => hF.elim))
    obtain ⟨y, H2, I2, ry, T2⟩ := he
    have pk := I2.pin (kS, seqObj "list" kA e) (by simp)
    have pa := I2.pin (a, seqObj "list" #[] e1) (by simp)
    have hz1 : kA.size ≤ sizeLine := by rw [hsz]; omega
    refine wpAny_bind (listUpdate_at pk.1 rfl ?_ hz1 (by rw [Array.size_push]; omega))
    have s1 := Heap.SameBut.update s''.heap kS (Obj.mapSeq (·.push v))
    obtain ⟨c2, hc2⟩ : ∃ c2, (s''.heap.update kS (Obj.mapSeq (·.push v))).get? kS = some (seqObj "list" (kA.push v) c2) := ⟨_, get?_update_seq pk.1 (·.push v)⟩
    have I3 : Inv X (pins ++ [(a, seqObj "list" #[] e1)]) σ H2 s'' := I2.pins_of fun p hp => I2.pin p (by
      rcases List.mem_append.mp hp with q | q
      · simp [q]
      · simp at q; subst q; simp)
    have I4 := I3.turned (it := kS) (t' := s''.toks) (h' := s''.heap.update kS (Obj.mapSeq (·.push v))) (fun b o hb' eb => (s1.2 b hb').trans eb) pk.2.1 pk.2.2.1 (.inr k1) k2 (fun p hp => by
      rcases List.mem_append.mp hp with q | q
      · exact k3 p (List.mem_append_left _ q)
      · rcases List.mem_append.mp q with q | q
        · exact k3 p (List.mem_append_right _ q)
        · simp at q; subst q; exact ne.symm)
    refine wpAny_pure ⟨rfl, ks ++ [y], H2, kA.push v, c2, I4.pins_of fun p hp => ?_, by rw [Array.toList_push]; exact vals_snoc rk ry, by rw [Array.size_push, hsz], T2⟩
    rcases List.mem_append.mp hp with q | q
    · exact I4.pin p (by simp [q])
    · rcases List.mem_cons.mp q with rfl | q
      · exact ⟨hc2, pk.2.1, pk.2.2.1, pk.2.2.2.1, seq_cell⟩
      · exact I4.pin p (by simp at q; subst q; simp)
  case fin =>
    rintro s' ⟨ks, H', kA, e, I', rk, hsz, T'⟩
    simp only [Nat.zero_add] at hsz T'
    rw [← r.length, List.drop_length] at T'
    have pk := I'.pin (kS, seqObj "list" kA e) (by simp)
    refine wpAny_bind (listItems_at pk.1 rfl ?_)
    exact done ks H' kA e s' I' rk hsz T'
/-- sorted(xs, key=f) -/
def rSortK (K : PySem.W.Frag) (f : Addr) (sp : Sp) : List V → List V → Hp → VK → Prop := fun xs zs H Q => ∃ (l : Addr) (vs : List V), xs = [.ref l] ∧ zs = [.ref f] ∧ SqL K H l vs ∧
  Turns sp vs [] H fun ks H2 => ∃ qs : List PyData, DpAll K H2 ks qs ∧ AllAlike qs ∧ Sortable qs ∧ (∀ q ∈ qs, q.depth ≤ 64) ∧ ks.length = vs.length ∧
    ∀ p, H2 p = none → Q (.ref p) (upd H2 p (.lst (((vs.zip qs).mergeSort (dataLe false fun b => b.2)).map (·.1))))
theorem dpAll_reads {H : Hp} {s : Shared} (I : Inv X pins σ H s) : ∀ {vs : List V} {qs : List PyData} {us : List Value}, DpAll X.K H vs qs → Vals vs us → EachIs (fun (v : Value) (q : PyData) => ∃ as, Reads s.heap v q as) us qs
  | _, _, _, .nil, .nil => .nil
  | _, _, _, .cons d ds, .cons r rs => .cons (Dp.reads I _ _ _ d r) (dpAll_reads I ds rs)
theorem each_zip : ∀ {vs : List V} {qs : List PyData} {us : List Value}, Vals vs us → vs.length = qs.length → EachIs (fun (v : Value) (b : V × PyData) => RelV b.1 v) us (vs.zip qs)
  | _, [], _, .nil, _ => .nil
  | _, _ :: _, _, .cons r rs, h => .cons r (each_zip rs (by simpa using h))
  | _, _ :: _, _, .nil, h => by cases h
  | _, [], _, .cons _ _, h => by cases h
theorem adopt {H : Hp} {s : Shared} {h' : Heap} {t' : Nat} {a kS : Addr} {o : HO} (I : Inv X pins σ H s) (hk : But2 kS a s.heap h') (na : H a = none) (nk : H kS = none) (a0 : X.s_0.heap.objs.size ≤ a) (k0 : X.s_0.heap.objs.size ≤ kS) (aL : a ≠ X.env.locals) (kL : kS ≠ X.env.locals)
    (aC : ∀ x c, X.env.cells.lookup x = some c → c ≠ a) (kC : ∀ x c, X.env.cells.lookup x = some c → c ≠ kS) (aP : ∀ p ∈ X.pn ++ pins, p.1 ≠ a) (kP : ∀ p ∈ X.pn ++ pins, p.1 ≠ kS) (new : ObjOk X.prog X.w (upd H a o) h' a o) :
    Inv X pins σ (upd H a o) { s with heap := h', toks := t' } := by
  have nea : ∀ b u, H b = some u → b ≠ a := fun b u e z => by rw [z, na] at e; cases e
  have nek : ∀ b u, H b = some u → b ≠ kS := fun b u e z => by rw [z, nk] at e; cases e
  have out : ∀ {b : Addr}, b ∉ [kS, a] → b ≠ kS ∧ b ≠ a := fun h => ⟨fun z => h (by simp [z]), fun z => h (by simp [z])⟩
  refine I.step (g' := s.gens) (d' := s.drawn) (ch := [kS, a]) (fun b hb => ?_) (fun b o _ _ hc e _ => hk b o (out hc).1 (out hc).2 e) (fun b o _ _ hc e _ => ⟨o.slots, hk b o (out hc).1 (out hc).2 e⟩) (fun b _ hc _ n => by rw [upd_ne (out hc).2]; exact n)
    (fun b o hc e => ⟨o, hk b o (out hc).1 (out hc).2 e⟩) (fun b _ e => by rw [upd_ne (nea b _ e)]; exact e) (fun b _ _ e => by rw [upd_ne (nea b _ e)]; exact e) (fun b ps e => ⟨#[], by rw [upd_ne (nea b _ e), e]; simp⟩) (fun m hm => ?_) (fun b u e => ?_) I.bare
  · rcases List.mem_cons.mp hb with rfl | hb
    · exact ⟨.inr k0, kL, kC, kP⟩
    · rw [List.mem_singleton.mp hb]; exact ⟨.inr a0, aL, aC, aP⟩
  · obtain ⟨o, es, ep, ho, r⟩ := hm
    exact ⟨o, es, ep, hk _ o (Ne.symm kL) (Ne.symm aL) ho, r⟩
  · by_cases hb : b = a
    · subst hb; rw [upd_same] at e; cases e; exact new
    · rw [upd_ne hb] at e
      refine (I.hok b u e).stay (fun c v hc q => hk c v ?_ ?_ q) (fun c q => ?_) fun c _ q => ?_
      · rcases hc with z | z
        · rw [z]; exact nek b u e
        · exact nek c _ z
      · rcases hc with z | z
        · rw [z]; exact nea b u e
        · exact nea c _ z
      · rw [upd_ne (nea c _ q)]; exact q
      · rw [upd_ne (nea c _ q)]; exact q
theorem cr_sortK (F : FnOk X.prog X.w X.K X.mg X.base L2.CX0 k f fd ps sp) (hr : Room (k + 1) X.A) (hb : Binds X.K fd ps []) : CallRK X (.builtin "sorted") [Str.ofString "key"] (rSortK X.K f sp) := by
  intro pins s σ H xs zs us ws Q I rx rz h
  obtain ⟨l, vs, rfl, rfl, hs, T⟩ := h
  obtain ⟨its, rv, hl, hz⟩ := I.list hs
  rw [Vals.ref1 rx, Vals.ref1 rz]
  have hzi : its.length ≤ sizeLine := by rw [← rv.length]; exact hz
  refine PySem.W.sorted_of_sort hl.isList hzi (ksk_s1 _ _) (fun x => ksk_l1 _ _) fun E' => ?_
  rw [show [Str.ofString "key"].zip [Value.ref f] = [(Str.ofString "key", Value.ref f)] from rfl, ksk_t1]
  have I0 : Inv X pins σ H { s with heap := PySem.W.copyHeap s.heap its } := I.kept (t' := s.toks) fun _ _ => PySem.W.copyHeap_old
  have ho := PySem.W.copyHeap_at s.heap its
  have old : ∀ b o, s.heap.get? b = some o → b < s.heap.objs.size := fun b o e => Heap.lt_size e
  have pinLt : ∀ p ∈ X.pn ++ pins, p.1 < s.heap.objs.size := fun p hp => Heap.lt_size (I.pin p hp).1
  have celLt : ∀ x c, X.env.cells.lookup x = some c → c < s.heap.objs.size := fun x c e => by obtain ⟨v, o, ho, _⟩ := I.cell x c e; exact Heap.lt_size ho
  have locLt := I.lt
  have s0 := I.sz
  have na : H (s.heap.objs.size + 1) = none := I.hok.fresh (Nat.le_succ _)
  have s1 := Heap.SameBut.update (PySem.W.copyHeap s.heap its) (s.heap.objs.size + 1) (Obj.mapSeq fun _ => (#[] : Array Value))
  obtain ⟨e1, ho1⟩ : ∃ e1, ((PySem.W.copyHeap s.heap its).update (s.heap.objs.size + 1) (Obj.mapSeq fun _ => (#[] : Array Value))).get? (s.heap.objs.size + 1) = some (seqObj "list" #[] e1) := ⟨_, get?_update_seq ho fun _ => #[]⟩
  have aL : s.heap.objs.size + 1 ≠ X.env.locals := Nat.ne_of_gt (Nat.lt_succ_of_lt locLt)
  have aC : ∀ x c, X.env.cells.lookup x = some c → c ≠ s.heap.objs.size + 1 := fun x c e => Nat.ne_of_lt (Nat.lt_succ_of_lt (celLt x c e))
  have aP : ∀ p ∈ X.pn ++ pins, p.1 ≠ s.heap.objs.size + 1 := fun p hp => Nat.ne_of_lt (Nat.lt_succ_of_lt (pinLt p hp))
  have I1 := I0.turned (it := s.heap.objs.size + 1) (t' := s.toks) (h' := (PySem.W.copyHeap s.heap its).update (s.heap.objs.size + 1) (Obj.mapSeq fun _ => (#[] : Array Value))) (fun b o hb' eb => (s1.2 b hb').trans eb) na aL (.inr (Nat.le_trans s0 (Nat.le_succ _))) aC aP
  unfold ksk_tree
  refine wpAny_bind (listItems_at ho rfl ?_)
  refine wpAny_bind (listUpdate_at ho rfl ?_ (by rw [List.size_toArray]; exact hzi) (Nat.zero_le _))
  refine wpAny_bind (seqEpoch_at ho1 rfl ?_)
  refine wpAny_bind (wpAny_newTuple ?_ (by show its.length ≤ _; exact hzi))
  refine wpAny_bind (wpAny_newList ?_ (Nat.zero_le _))
  refine wpAny_holding ?_
  let hp0 : Heap := (PySem.W.copyHeap s.heap its).update (s.heap.objs.size + 1) (Obj.mapSeq fun _ => (#[] : Array Value))
  have hal : s.heap.objs.size + 1 < hp0.objs.size := Heap.lt_size ho1
  have hsz2 : (hp0.push (seqObj "tuple" its.toArray 0)).objs.size = hp0.objs.size + 1 := size_push' _ _
  have I2 : Inv X pins σ H { s with heap := (hp0.push (seqObj "tuple" its.toArray 0)).push (seqObj "list" #[] 0) } := I1.kept (t' := s.toks) fun b o e => Heap.get?_push_of_some _ (Heap.get?_push_of_some _ e)
  have kb : s.heap.objs.size + 1 < (hp0.push (seqObj "tuple" its.toArray 0)).objs.size := by rw [hsz2]; exact Nat.lt_succ_of_lt hal
  have kH : H (hp0.push (seqObj "tuple" its.toArray 0)).objs.size = none := I.hok.fresh (Nat.le_of_lt (Nat.lt_trans (Nat.lt_succ_self _) kb))
  have kL : (hp0.push (seqObj "tuple" its.toArray 0)).objs.size ≠ X.env.locals := Nat.ne_of_gt (Nat.lt_trans (Nat.lt_succ_of_lt locLt) kb)
  have kC : ∀ x c, X.env.cells.lookup x = some c → c ≠ (hp0.push (seqObj "tuple" its.toArray 0)).objs.size := fun x c e => Nat.ne_of_lt (Nat.lt_trans (Nat.lt_succ_of_lt (celLt x c e)) kb)
  have kP : ∀ p ∈ X.pn ++ pins, p.1 ≠ (hp0.push (seqObj "tuple" its.toArray 0)).objs.size := fun p hp => Nat.ne_of_lt (Nat.lt_trans (Nat.lt_succ_of_lt (pinLt p hp)) kb)
  have k0 : X.s_0.heap.objs.size ≤ (hp0.push (seqObj "tuple" its.toArray 0)).objs.size := Nat.le_trans s0 (Nat.le_of_lt (Nat.lt_trans (Nat.lt_succ_self _) kb))
  have I3 : Inv X (pins ++ [((hp0.push (seqObj "tuple" its.toArray 0)).objs.size, seqObj "list" #[] 0), (s.heap.objs.size + 1, seqObj "list" #[] e1)]) σ H { s with heap := (hp0.push (seqObj "tuple" its.toArray 0)).push (seqObj "list" #[] 0) } := I2.pins_of fun p hp => by
    rcases List.mem_append.mp hp with q | q
    · exact I2.pin p (List.mem_append_right _ q)
    · rcases List.mem_cons.mp q with rfl | q
      · exact ⟨Heap.get?_push_size _ rfl, kH, kL, I.nofs (Nat.le_of_lt (Nat.lt_trans (Nat.lt_succ_self _) kb)), seq_cell⟩
      · rw [List.mem_singleton.mp q]
        exact ⟨Heap.get?_push_of_some _ (Heap.get?_push_of_some _ ho1), na, aL, I.nofs (Nat.le_succ _), seq_cell⟩
  refine restH F hr hb k0 kC kP (Nat.ne_of_gt kb) hzi I3 rv T fun ks H2 kA e s2 J rk hkA hq => ?_
  obtain ⟨qs, hd, hal2, hso, hdp, hkl, q⟩ := hq
  have pk := J.pin ((hp0.push (seqObj "tuple" its.toArray 0)).objs.size, seqObj "list" kA e) (List.mem_append_right _ (List.mem_append_right _ (.head _)))
  have pa := J.pin (s.heap.objs.size + 1, seqObj "list" #[] e1) (List.mem_append_right _ (List.mem_append_right _ (.tail _ (.head _))))
  have er := dpAll_reads J hd rk
  have hql : qs.length = its.length := by rw [← rv.length, ← hkl]; exact (dpAll_len hd).symm
  have Sx := SortsAt.data (prog := X.prog) (w := X.w) (A := X.A.in1.in1) (s := s2) er hal2 hso (fun d hd' => by have h1 := hdp d hd'; have h2 := hr.un; show X.A.units + 1 + 1 + d.depth < _; omega)
  refine endH (vs := its) pk.1 pa.1 (Nat.ne_of_gt kb) Sx hkA hzi fun h' tk c hb2 hga => ⟨rfl, ?_⟩
  have ko : KeyedOut false ((vs.zip qs).map (·.2)) its (sortVals (dataKind s2.heap qs) false kA.toList its) := by
    rw [zip_snd (by rw [rv.length, hql])]
    exact ⟨s2.heap, kA.toList, hal2, rfl, er⟩
  have ez := PySem.W.keyedOut_each (R := fun (v : Value) (b : V × PyData) => RelV b.1 v) (fun b : V × PyData => b.2) ko (each_zip rv (by rw [rv.length, hql]))
  have hlz : (vs.zip qs).length = vs.length := by rw [List.length_zip, hql, rv.length]; omega
  have hlen : (((vs.zip qs).mergeSort (dataLe false fun b => b.2)).map (·.1)).length ≤ sizeLine := by rw [List.length_map, List.length_mergeSort, hlz]; exact hz
  have J0 : Inv X pins σ H2 s2 := J.pins_of fun p hp => J.pin p (List.mem_append_right _ (List.mem_append_left _ hp))
  refine ⟨.ref _, upd H2 (s.heap.objs.size + 1) (.lst (((vs.zip qs).mergeSort (dataLe false fun b => b.2)).map (·.1))), adopt J0 hb2 pa.2.1 pk.2.1 (Nat.le_trans s0 (Nat.le_succ _)) k0 aL kL aC kC aP kP ⟨hlen, _, c, each_vals ez, hga⟩, rfl, q _ pa.2.1⟩
end
end MH
end
section
set_option Elab.async false
set_option linter.all false
set_option maxRecDepth 100000
set_option maxHeartbeats 2000000
set_option autoImplicit false
namespace ML
open PySem PySem.Spec PyProof.Rows L2
open PySem.W (AllAlike Sortable dataLe alike)
section
variable {u : Uv} {W : WX} {B G0 G G' H H' : Hp} {σ : L2.St} {ε : Env}
def keysOf (F : List D → Rt) : List D → Option (List D)
  | [] => some []
  | d :: ds => match F [d] with
    | .ret e => (keysOf F ds).map fun es => e :: es
    | _ => none
def sortByL (ds es : List D) : List D := ((ds.zip es).mergeSort (dataLe false fun b => toPy b.2)).map (·.1)
def sortK (F : List D → Rt) : D → Option D
  | .lst ds => (keysOf F ds).bind fun es => if sortOk0 es = true then some (.lst (sortByL ds es)) else none
  | _ => none
def sortKF (fa : Env → Out D) (F : List D → Rt) : Env → Out D := fun ε => (fa ε).bnd fun d ε1 => Out.opt (sortK F d) ε1
theorem repL_snoc : ∀ {ds : List D} {vs : List V} {d : D} {v : V}, RepL u G ds vs → Rep u G d v → RepL u G (ds ++ [d]) (vs ++ [v])
  | [], _, _, _, h, r => by simp only [RepL] at h; subst h; exact ⟨_, [], rfl, r, rfl⟩
  | x :: ds, _, _, _, h, r => by
    obtain ⟨v, q, rfl, h1, h2⟩ := h
    exact ⟨v, _, rfl, h1, repL_snoc h2 r⟩
theorem turns_of {F : List D → Rt} {Q : List V → Hp → Prop} : ∀ {ds es : List D} {vs ks : List V} {es0 : List D} {G H : Hp}, RepE u B G0 G H σ ε → RepL u G ds vs → keysOf F ds = some es → RepL u G es0 ks →
    (∀ ks' G' H', Ex G G' → RepE u B G0 G' H' σ ε → RepL u G' (es0 ++ es) ks' → Q ks' H') → MH.Turns (SpF u 1 F) vs ks H Q
  | [], es, vs, ks, es0, G, H, R, rv, hk, rk, fin => by
    simp only [RepL] at rv; subst rv
    simp only [keysOf] at hk; cases hk
    exact fin ks G H (Ex.refl _) R (by rw [List.append_nil]; exact rk)
  | d :: ds, es, vs, ks, es0, G, H, R, rv, hk, rk, fin => by
    obtain ⟨v, q, rfl, r1, r2⟩ := rv
    simp only [keysOf] at hk
    cases ef : F [d] with
    | exn x => rw [ef] at hk; cases hk
    | bad => rw [ef] at hk; cases hk
    | ret e =>
      rw [ef] at hk
      simp only [Option.map_eq_some_iff] at hk
      obtain ⟨es', hk', rfl⟩ := hk
      refine ⟨H, G, [d], rfl, R.gh, Ex.refl _, RepL.one r1, ?_⟩
      rw [ef]
      intro y G' H' eg gb gh bh ry
      refine turns_of (es0 := es0 ++ [e]) (R.grow eg gb bh gh) (RepL.mono eg _ r2) hk' (repL_snoc (RepL.mono eg _ rk) ry) fun ks' G2 H2 e2 R2 r' => ?_
      exact fin ks' G2 H2 (eg.trans e2) R2 (by rw [List.append_assoc] at r'; exact r')
theorem keys_len {F : List D → Rt} : ∀ {ds es : List D}, keysOf F ds = some es → es.length = ds.length
  | [], es, h => by simp only [keysOf] at h; cases h; rfl
  | d :: ds, es, h => by
    simp only [keysOf] at h
    cases ef : F [d] with
    | exn x => rw [ef] at h; cases h
    | bad => rw [ef] at h; cases h
    | ret e =>
      rw [ef] at h
      simp only [Option.map_eq_some_iff] at h
      obtain ⟨es', h', rfl⟩ := h
      simp [keys_len h']
theorem sortBy_rep {ds es : List D} {vs : List V} (r : RepL u G ds vs) (hl : es.length = ds.length) : RepL u G (sortByL ds es) (((vs.zip (toPyL es)).mergeSort (dataLe false fun b => b.2)).map (·.1)) := by
  have hlv := r.length
  have h1 : vs.zip (toPyL es) = ((vs.zip ds).zip es).map fun b => (b.1.1, toPy b.2) := by
    rw [toPyL_map]
    clear r
    induction vs generalizing ds es with
    | nil => simp
    | cons v vs ih => cases ds with
      | nil => simp at hlv
      | cons d ds => cases es with
        | nil => simp at hl
        | cons e es => simp [ih (by simpa using hl) (by simpa using hlv)]
  have h2 : ds.zip es = ((vs.zip ds).zip es).map fun b => (b.1.2, b.2) := by
    clear r h1
    induction vs generalizing ds es with
    | nil => cases ds with
      | nil => simp
      | cons _ _ => simp at hlv
    | cons v vs ih => cases ds with
      | nil => simp at hlv
      | cons d ds => cases es with
        | nil => simp at hl
        | cons e es => simp [ih (by simpa using hl) (by simpa using hlv)]
  unfold sortByL
  rw [h1, h2, ← List.map_mergeSort (r := dataLe false fun b : (V × D) × D => toPy b.2) (s := dataLe false fun b : V × PyData => b.2) (f := fun b : (V × D) × D => (b.1.1, toPy b.2)) (fun a _ b _ => rfl),
    ← List.map_mergeSort (r := dataLe false fun b : (V × D) × D => toPy b.2) (s := dataLe false fun b : D × D => toPy b.2) (f := fun b : (V × D) × D => (b.1.2, b.2)) (fun a _ b _ => rfl), List.map_map, List.map_map]
  have hp : ∀ b ∈ ((vs.zip ds).zip es).mergeSort (dataLe false fun b : (V × D) × D => toPy b.2), Rep u G b.1.2 b.1.1 := fun b hb => by
    have hb' : b ∈ (vs.zip ds).zip es := (List.mergeSort_perm _ _).mem_iff.mp hb
    have hb2 : b.1 ∈ vs.zip ds := (List.of_mem_zip hb').1
    obtain ⟨i, hi⟩ := List.getElem?_of_mem hb2
    rw [List.getElem?_zip_eq_some] at hi
    obtain ⟨v, hv, rv⟩ := r.get hi.2
    rw [hi.1] at hv; cases hv
    exact rv
  generalize ((vs.zip ds).zip es).mergeSort (dataLe false fun b : (V × D) × D => toPy b.2) = l at hp
  induction l with
  | nil => simp [RepL]
  | cons b l ih => exact ⟨b.1.1, _, rfl, hp b List.mem_cons_self, ih fun c hc => hp c (List.mem_cons_of_mem _ hc)⟩
theorem rz_sortK {f : Addr} {ta : TE} {fa : Env → Out D} {F : List D → Rt} (ha : RzE u W ta fa) : RzE u W (tCKw (MH.rSortK u.K f (SpF u 1 F)) (tCons ta tNil) (tCons (tC (.ref f)) tNil)) (sortKF fa F) := fun B G0 G H σ ε Q R q =>
  ha _ _ _ _ _ _ _ R (q.bnd.mono fun d ε1 G1 H1 e1 R1 h1 v rv => by
    cases d with
    | lst ds =>
      simp only [sortK] at h1
      cases hk : keysOf F ds with
      | none => rw [hk] at h1; exact h1.elim
      | some es =>
        rw [hk] at h1
        simp only [Option.bind_some] at h1
        by_cases hs : sortOk0 es = true
        · rw [if_pos hs] at h1
          obtain ⟨l, vs, rfl, a1, a2⟩ := rep_lst.mp rv
          obtain ⟨o1, o2, o3, o4⟩ := sortOk0_prop hs
          refine ⟨l, vs, rfl, rfl, SqL.of (R1.gh _ _ a1), turns_of (es0 := []) (es := es) R1 a2 hk rfl fun ks G2 H2 e2 R2 rk => ?_⟩
          rw [List.nil_append] at rk
          refine ⟨toPyL es, rep_dpL es (canAll o4) rk R2.gh, o1, o2, o3, by rw [← rk.length, keys_len hk, a2.length], fun p hp => ?_⟩
          have a2' := RepL.mono e2 _ a2
          have R3 := R2.new hp (.lst (((vs.zip (toPyL es)).mergeSort (dataLe false fun b => b.2)).map (·.1)))
          exact h1 _ _ (e2.trans (R2.exn hp _)) R3 _ (rep_lst.mpr ⟨p, _, rfl, upd_same, RepL.mono (R2.exn hp _) _ (sortBy_rep a2' (keys_len hk))⟩)
        · rw [if_neg hs] at h1; exact h1.elim
    | _ => exact h1.elim)
end
end ML
end
section
set_option Elab.async false
set_option linter.all false
set_option maxRecDepth 100000
set_option maxHeartbeats 2000000
set_option autoImplicit false
namespace ML
open PySem PySem.Spec PyProof.Rows L2
section
variable {u : Uv} {W : WX} {b : List Nat} {B G0 G G' H H' : Hp} {σ : L2.St} {ε : Env}
/-! ### recursion: the promise of a depth of 0 -/
theorem okBad {P : Program} {w : World} {K : PySem.W.Frag} {mg : Str → Option Value} {base : Heap} {k n : Nat} {f : Addr} {fd : FuncData} {ps : List Str} : FnOk P w K mg base CX0 k f fd ps (SpF u n fun _ => .bad) :=
  ⟨fun vs H Q E ⟨_, _, _, _, _, _, _, h⟩ => h.elim, fun A outer s H args us vs Q E _ _ _ _ ⟨_, _, _, _, _, _, _, h⟩ => h.elim⟩
end
end ML
end
section
set_option Elab.async false
set_option linter.all false
set_option maxRecDepth 100000
set_option maxHeartbeats 2000000
set_option autoImplicit false
namespace MH
open PySem PySem.Spec PyProof.Rows L2
section
variable {X : Cx} {K : PySem.W.Frag}
def rMin2 : List V → Hp → VK → Prop := fun xs H Q => ∃ i j, xs = [.int i, .int j] ∧ Q (.int (if j < i then j else i)) H
def rMax2 : List V → Hp → VK → Prop := fun xs H Q => ∃ i j, xs = [.int i, .int j] ∧ Q (.int (if j > i then j else i)) H
def rAbs : List V → Hp → VK → Prop := fun xs H Q => ∃ i, xs = [.int i] ∧ Q (.int (if i < 0 then -i else i)) H
theorem pe_propK (hK : X.K = K) {C p g : Addr} {f : Str} {k : Nat} {fd : FuncData} {ps : List Str} {sp : Sp} {e : Expr} {pos : Pos} {ta : TE} {E : XK} (he : PE X e ta) (c : Cls K C) (hp : PropOf K C f p g) (F : FnOk X.prog X.w K X.mg X.base CX0 k g fd ps sp) (hr : Room (k + 1) X.A) (hb : Binds K fd ps []) (hx : Passes CX0 X.nox E)
    (hab : attributeBase e f X.env (eval e X.env) = eval e X.env) : PE X (.Attribute e f pos) (tProp C sp [] E ta) := by
  subst hK; exact pe_prop he c hp F hr hb .nil hx hab
end
end MH
namespace ML
open PySem PySem.Spec PyProof.Rows L2
section
variable {u : Uv} {W : WX} {b : List Nat} {B G0 G G' H H' : Hp} {σ : L2.St} {ε : Env}
/-! ### isinstance(x, (T, U)) -/
def isi2F (f : Env → Out D) (T U : String) : Env → Out D := fun ε => (f ε).bnd fun d ε1 => match d with
  | .scr _ => .bad
  | .obj _ _ _ => .ok (.bl false) ε1
  | d => .ok (.bl (isiB d T || isiB d U)) ε1
theorem kit2 {K : PySem.W.Frag} {t : Value} {T U : Value} {a c : Bool} (h : PySem.W.kitOne K t T = some a) (h' : PySem.W.kitOne K t U = some c) : PySem.W.kitAny K t [T, U] = some (a || c) := by
  refine kitAny_cons (b := a) h (fun ha => ?_) (fun ha => by rw [ha]; rfl)
  subst ha
  refine kitAny_cons (b := c) h' (fun hc => ?_) (fun hc => by rw [hc]; rfl)
  subst hc
  exact kitAny_nil
theorem rz_isi2 {te : TE} {f : Env → Out D} {T U : String} (h : RzE u W te f) (hT : T ∈ typesB) (hU : U ∈ typesB) (hc : ∀ c, ClsOk u.K (u.cl c)) :
    RzE u W (tCB (rIsiT u.K) (tCons te (tCons (tTup (tCons (tC (.ty T)) (tCons (tC (.ty U)) tNil))) tNil))) (isi2F f T U) := fun B G0 G H σ ε Q R q =>
  h _ _ _ _ _ _ _ R (q.bnd.mono fun d ε1 G1 H1 e1 R1 h1 v rv => by
    refine ⟨by simp; decide, fun p hp => ?_⟩
    have R2 := R1.new hp (.tup [.ty T, .ty U])
    have eg := R1.exn hp (.tup [.ty T, .ty U])
    have rv2 := rv.mono eg
    have fin : ∀ (t : Value) (a c : Bool), TyX u.K (upd H1 p (.tup [.ty T, .ty U])) v t → PySem.W.kitOne u.K t (.type T) = some a → PySem.W.kitOne u.K t (.type U) = some c → Q (.bl (a || c)) (upd H1 p (.tup [.ty T, .ty U])) → rIsiT u.K [v, .ref p] (upd H1 p (.tup [.ty T, .ty U])) Q :=
      fun t a c x1 x2 x3 q => ⟨v, p, [.ty T, .ty U], t, [.type T, .type U], a || c, rfl, upd_same, .cons (.ty T) (.cons (.ty U) .nil), x1, kit2 x2 x3, q⟩
    cases d with
    | scr _ => exact h1.elim
    | obj c fs ds =>
      simp only [Rep] at rv2
      obtain ⟨a, dx, ws, rfl, a1, _⟩ := rv2
      have C := hc c
      exact fin _ false false (.base (.ins (R2.gh _ _ a1) C.cl C.ha C.hn C.htk C.hm)) (C.no T hT) (C.no U hU) (h1.ret' eg R2 _ (rep_bl.mpr rfl))
    | non => exact fin _ _ _ (tyX_of rv2 R2.gh (by simp [kindD]) (fun _ z => by cases z)) (kit_all _ _ (by simp [kindD]) T hT) (kit_all _ _ (by simp [kindD]) U hU) (h1.ret' eg R2 _ (rep_bl.mpr rfl))
    | bl _ => exact fin _ _ _ (tyX_of rv2 R2.gh (by simp [kindD]) (fun _ z => by cases z)) (kit_all _ _ (by simp [kindD]) T hT) (kit_all _ _ (by simp [kindD]) U hU) (h1.ret' eg R2 _ (rep_bl.mpr rfl))
    | int _ => exact fin _ _ _ (tyX_of rv2 R2.gh (by simp [kindD]) (fun _ z => by cases z)) (kit_all _ _ (by simp [kindD]) T hT) (kit_all _ _ (by simp [kindD]) U hU) (h1.ret' eg R2 _ (rep_bl.mpr rfl))
    | str _ => exact fin _ _ _ (tyX_of rv2 R2.gh (by simp [kindD]) (fun _ z => by cases z)) (kit_all _ _ (by simp [kindD]) T hT) (kit_all _ _ (by simp [kindD]) U hU) (h1.ret' eg R2 _ (rep_bl.mpr rfl))
    | tup _ => exact fin _ _ _ (tyX_of rv2 R2.gh (by simp [kindD]) (fun _ z => by cases z)) (kit_all _ _ (by simp [kindD]) T hT) (kit_all _ _ (by simp [kindD]) U hU) (h1.ret' eg R2 _ (rep_bl.mpr rfl))
    | lst _ => exact fin _ _ _ (tyX_of rv2 R2.gh (by simp [kindD]) (fun _ z => by cases z)) (kit_all _ _ (by simp [kindD]) T hT) (kit_all _ _ (by simp [kindD]) U hU) (h1.ret' eg R2 _ (rep_bl.mpr rfl))
    | dk _ _ => exact fin _ _ _ (tyX_of rv2 R2.gh (by simp [kindD]) (fun _ z => by cases z)) (kit_all _ _ (by simp [kindD]) T hT) (kit_all _ _ (by simp [kindD]) U hU) (h1.ret' eg R2 _ (rep_bl.mpr rfl))
    | dt _ _ => exact fin _ _ _ (tyX_of rv2 R2.gh (by simp [kindD]) (fun _ z => by cases z)) (kit_all _ _ (by simp [kindD]) T hT) (kit_all _ _ (by simp [kindD]) U hU) (h1.ret' eg R2 _ (rep_bl.mpr rfl)))
/-! ### a property of an own class -/
def propF (f : Env → Out D) (c : Nat) (F : List D → Rt) : Env → Out D := fun ε => (f ε).bnd fun d ε1 => match d with
  | .obj c' fs ds => if c' = c then callO (F [.obj c' fs ds]) ε1 else .bad
  | _ => .bad
theorem rz_prop {c : Nat} {te : TE} {f : Env → Out D} {F : List D → Rt} (h : RzE u noW te f) : RzE u noW (tProp (u.cl c) (SpF u 1 F) [] E0 te) (propF f c F) := fun B G0 G H σ ε Q R q =>
  h _ _ _ _ _ _ _ R (q.bnd.mono fun d ε1 G1 H1 e1 R1 h1 v rv => by
    cases d with
    | obj c' fs ds =>
      by_cases hcc : c' = c
      · subst hcc
        simp only [if_true] at h1
        have rv0 := rv
        simp only [Rep] at rv
        obtain ⟨a, dx, ws, rfl, a1, a2, a3⟩ := rv
        refine ⟨a, dx, fs.zip ws, rfl, R1.gh _ _ a1, H1, G1, [.obj c' fs ds], rfl, R1.gh, Ex.refl _, RepL.one rv0, ?_⟩
        cases ef : F [.obj c' fs ds] with
        | ret d => rw [ef] at h1; exact fun v G' H' eg gb gh bh rv => Pst.ret' (a := d) h1 eg (R1.grow eg gb bh gh) v rv
        | exn x => rw [ef] at h1; exact fun c dd G' H' eg gb gh bh rx => h1 c dd G' H' eg (R1.grow eg gb bh gh) rx
        | bad => rw [ef] at h1; exact h1.elim
      · simp only [if_neg hcc] at h1; exact h1.elim
    | _ => exact h1.elim)
/-! ### min, max, abs of ints -/
def min2D : List D → Option D
  | [.int i, .int j] => some (.int (if j < i then j else i))
  | _ => none
def max2D : List D → Option D
  | [.int i, .int j] => some (.int (if i < j then j else i))
  | _ => none
def absD : List D → Option D
  | [.int i] => some (.int (if i < 0 then -i else i))
  | _ => none
theorem rep2 {x y : D} {vs : List V} (r : RepL u G [x, y] vs) : ∃ v w, vs = [v, w] ∧ Rep u G x v ∧ Rep u G y w := by
  simp only [RepL] at r
  obtain ⟨v, r1, rfl, h1, w, r2, rfl, h2, rfl⟩ := r
  exact ⟨v, w, rfl, h1, h2⟩
theorem rep1 {x : D} {vs : List V} (r : RepL u G [x] vs) : ∃ v, vs = [v] ∧ Rep u G x v := by
  simp only [RepL] at r
  obtain ⟨v, r1, rfl, h1, rfl⟩ := r
  exact ⟨v, rfl, h1⟩
theorem rc_min2 : RzC u MH.rMin2 min2D := fun xs ds z G H Q r hz eg k => by
  unfold min2D at hz
  split at hz
  · cases hz
    obtain ⟨v, w, rfl, h1, h2⟩ := rep2 r
    exact ⟨_, _, by rw [rep_int.mp h1, rep_int.mp h2], Kon.ret k eg (rep_int.mpr rfl)⟩
  · cases hz
theorem rc_max2 : RzC u MH.rMax2 max2D := fun xs ds z G H Q r hz eg k => by
  unfold max2D at hz
  split at hz
  · cases hz
    obtain ⟨v, w, rfl, h1, h2⟩ := rep2 r
    exact ⟨_, _, by rw [rep_int.mp h1, rep_int.mp h2], Kon.ret k eg (rep_int.mpr rfl)⟩
  · cases hz
theorem rc_abs : RzC u MH.rAbs absD := fun xs ds z G H Q r hz eg k => by
  unfold absD at hz
  split at hz
  · cases hz
    obtain ⟨v, rfl, h1⟩ := rep1 r
    exact ⟨_, by rw [rep_int.mp h1], Kon.ret k eg (rep_int.mpr rfl)⟩
  · cases hz
/-- max(a list of ints) -/
def maxI : List Int → Option Int
  | [] => none
  | n :: ns => some (ns.foldl max n)
theorem maxI_spec : ∀ (ns : List Int) (n : Int), (ns.foldl max n ∈ n :: ns) ∧ ∀ y ∈ n :: ns, y ≤ ns.foldl max n
  | [], n => by simp
  | m :: ns, n => by
    obtain ⟨h1, h2⟩ := maxI_spec ns (max n m)
    refine ⟨?_, fun y hy => ?_⟩
    · rw [List.foldl_cons]
      rcases List.mem_cons.1 h1 with h | h
      · rw [h]
        rcases Int.le_total n m with q | q
        · rw [Int.max_eq_right q]; simp
        · rw [Int.max_eq_left q]; simp
      · simp [h]
    · rw [List.foldl_cons]
      rcases List.mem_cons.1 hy with rfl | h
      · exact Int.le_trans (Int.le_max_left y m) (h2 (max y m) (by simp))
      · rcases List.mem_cons.1 h with rfl | h
        · exact Int.le_trans (Int.le_max_right n y) (h2 (max n y) (by simp))
        · exact h2 y (by simp [h])
def maxD : List D → Option D := oneD fun
  | .lst ds => (intsD ds).bind fun ns => (maxI ns).map .int
  | _ => none
theorem rc_maxD : RzC u (rMax u.K) maxD := rc_one fun x d z G H Q r hz eg k => by
  cases d with
  | lst ds =>
    simp only at hz
    cases hb : intsD ds with
    | none => rw [hb] at hz; cases hz
    | some ns =>
      rw [hb] at hz
      simp only [Option.bind_some] at hz
      cases ns with
      | nil => cases hz
      | cons n ns =>
        simp only [maxI, Option.map_some] at hz
        cases hz
        obtain ⟨a, vs, rfl, a1, a2⟩ := rep_lst.mp r
        refine ⟨a, n :: ns, rfl, SqL.of (by rw [← intsD_rep a2 hb]; exact eg _ _ a1), by simp, fun m hm hall => ?_⟩
        have e : m = ns.foldl max n := Int.le_antisymm ((maxI_spec ns n).2 m hm) (hall _ (maxI_spec ns n).1)
        subst e
        exact Kon.ret k eg (rep_int.mpr rfl)
  | _ => cases hz
/-! ### list(range(..)), tuple(range(..)) -/
def RzRg (u : Uv) (W : WX) (te : L2.St → Hp → (Int → Int → Hp → Prop) → Prop) (f : Env → Out (Int × Int)) : Prop := ∀ B G0 G H σ ε Q, RepE u B G0 G H σ ε → Pst u W B G0 σ G (f ε) (fun p _ _ H' => Q p.1 p.2 H') → te σ H Q
def rg1F (f : Env → Out D) : Env → Out (Int × Int) := fun ε => (f ε).bnd fun d ε1 => match d with
  | .int n => .ok (0, n) ε1
  | _ => .bad
def rg2F (f g : Env → Out D) : Env → Out (Int × Int) := fun ε => (f ε).bnd fun d ε1 => (g ε1).bnd fun e ε2 => match d, e with
  | .int m, .int n => .ok (m, n) ε2
  | _, _ => .bad
theorem rrg_1 {te : TE} {f : Env → Out D} (h : RzE u W te f) : RzRg u W (tRg1 te) (rg1F f) := fun B G0 G H σ ε Q R q =>
  h _ _ _ _ _ _ _ R (q.bnd.mono fun d ε1 G1 H1 e1 R1 h1 v rv => by
    cases d with
    | int n => exact ⟨n, rep_int.mp rv, h1.ret R1⟩
    | _ => exact h1.elim)
theorem rrg_2 {te te' : TE} {f g : Env → Out D} (h : RzE u W te f) (h' : RzE u W te' g) : RzRg u W (tRg2 te te') (rg2F f g) := fun B G0 G H σ ε Q R q =>
  h _ _ _ _ _ _ _ R (q.bnd.mono fun d ε1 G1 H1 e1 R1 h1 v rv => h' _ _ _ _ _ _ _ R1 (h1.bnd.mono fun e ε2 G2 H2 e2 R2 h2 w rw => by
    cases d with
    | int m =>
      cases e with
      | int n => exact ⟨m, n, rep_int.mp rv, rep_int.mp rw, h2.ret R2⟩
      | _ => exact h2.elim
    | _ => cases e <;> exact h2.elim))
def okRg (p : Int × Int) : Bool := decide (-100000 ≤ p.1) && (decide (p.1 ≤ 100000) && (decide (-100000 ≤ p.2) && decide (p.2 ≤ 100000)))
theorem rgOk_of {p : Int × Int} (h : okRg p = true) : RgOk p.1 p.2 := by
  simp only [okRg, Bool.and_eq_true, decide_eq_true_eq] at h
  exact ⟨by omega, by omega, by omega, by omega, by omega⟩
theorem rep_rg (a b : Int) : RepL u G (rangeD a (b - a).toNat) (rgV a b) := by
  unfold rangeD rgV
  generalize (List.range (b - a).toNat) = l
  induction l with
  | nil => simp [RepL]
  | cons i l ih =>
    simp only [List.map_cons]
    exact ⟨_, _, rfl, rep_int.mpr rfl, ih⟩
def lstRgM (f : Env → Out (Int × Int)) : Env → Out Sl := fun ε => (f ε).bnd fun p ε1 => if okRg p = true then .ok (.ow (.lst (rangeD p.1 (p.2 - p.1).toNat))) ε1 else .bad
theorem rzm_lstRg {te : L2.St → Hp → (Int → Int → Hp → Prop) → Prop} {f : Env → Out (Int × Int)} (h : RzRg u W te f) : RzM u W (tLstRg te) (lstRgM f) := fun B G0 G H σ ε Q R q =>
  h _ _ _ _ _ _ _ R (q.bnd.mono fun p ε1 G1 H1 e1 R1 h1 => by
    by_cases hp : okRg p = true
    · simp only [if_pos hp] at h1
      exact ⟨rgOk_of hp, fun l hl => h1.ret' (Ex.refl _) (R1.lay hl _) _ ⟨l, rfl, (R1.free hl).1, (R1.free hl).2.1, ⟨_, upd_same, rep_rg _ _⟩, apart_new R1 hl⟩⟩
    · simp only [if_neg hp] at h1; exact h1.elim)
def tupRgF (f : Env → Out (Int × Int)) : Env → Out D := fun ε => (f ε).bnd fun p ε1 => if okRg p = true then .ok (.tup (rangeD p.1 (p.2 - p.1).toNat)) ε1 else .bad
theorem rz_tupRg {te : L2.St → Hp → (Int → Int → Hp → Prop) → Prop} {f : Env → Out (Int × Int)} (h : RzRg u W te f) : RzE u W (tTupRg te) (tupRgF f) := fun B G0 G H σ ε Q R q =>
  h _ _ _ _ _ _ _ R (q.bnd.mono fun p ε1 G1 H1 e1 R1 h1 => by
    by_cases hp : okRg p = true
    · simp only [if_pos hp] at h1
      exact ⟨rgOk_of hp, fun l hl => h1.ret' (R1.exn hl _) (R1.new hl _) _ (rep_tup.mpr ⟨l, _, rfl, upd_same, rep_rg _ _⟩)⟩
    · simp only [if_neg hp] at h1; exact h1.elim)
end
/-! ### the head by facts, with properties -/
def pAd (K : PySem.W.Frag) (c f : Str) : Addr := match PySem.W.recIn K (He.ma K (He.ga K c) f) "property" with
  | some (.ref g :: _) => g
  | _ => 0
def fnP (K : PySem.W.Frag) (p : Str × Str) : He.FnW := match K.lookup (pAd K p.1 p.2) with
  | some ⟨_, _, .func fd, _⟩ => some (fd.name, fd.qualname, fd.params, fd.body, fd.scope, fd.globals, fd.closure, fd.builtins)
  | _ => none
def okP (K : PySem.W.Frag) (x : (Str × Str) × He.DefD) : Bool := PySem.W.keepIn K (.ref (pAd K x.1.1 x.1.2)) && ((match K.lookup (pAd K x.1.1 x.1.2) with
  | some ⟨_, _, .func fd, _⟩ => PySem.W.codeIn K fd.code x.2.qual && (He.dflB K fd.defaults (x.2.dvs K) && He.kwdB K fd.kwdefaults (x.2.kws K))
  | _ => false) && (He.eqO (PySem.W.findIn K (.ref (He.ga K x.1.1)) x.1.2) (some (some (.ref (He.ma K (He.ga K x.1.1) x.1.2)))) && (He.eqO (PySem.W.specialIn K (.ref (He.ma K (He.ga K x.1.1) x.1.2)) "__get__") (some (some (.builtin "property.__get__"))) &&
  (decide (PySem.W.takesIn K (.ref (He.ma K (He.ga K x.1.1) x.1.2)) = some true) && (match PySem.W.recIn K (He.ma K (He.ga K x.1.1) x.1.2) "property" with
    | some (.ref _ :: _) => true
    | _ => false)))))
theorem prop_funD {K : PySem.W.Frag} {c f : Str} {d : He.DefD} (e : fnP K (c, f) = d.val) (h : okP K ((c, f), d) = true) :
    ∃ p g fd, FunD K d.name d.qual d.params d.body d.scope (d.dvs K) (d.kws K) g fd ∧ PropOf K (He.ga K c) f p g := by
  unfold okP at h
  simp only [Bool.and_eq_true, decide_eq_true_eq] at h
  obtain ⟨kp, c2, h1, h2, h3, h4⟩ := h
  have hP : PropOf K (He.ga K c) f (He.ma K (He.ga K c) f) (pAd K c f) := by
    refine ⟨He.eqO_ok h1, He.eqO_ok h2, h3, ?_⟩
    unfold pAd
    split at h4
    · rename_i g rest eq
      rw [eq]
      exact ⟨rest, rfl⟩
    · cases h4
  unfold fnP at e
  cases q : K.lookup (pAd K c f) with
  | none =>
    simp only [q] at c2
    cases c2
  | some o =>
    obtain ⟨oc, od, dt, osl⟩ := o
    simp only [q] at c2 e
    cases dt with
    | func fd =>
      obtain ⟨n1, n2, n3, n4, n5, n6, n7, n8, n9, n10, n11, n12, n13, n14, n15⟩ := fd
      have e2 : (some (n1, n2, n3, n4, n5, n6, n7, n15) : He.FnW) = some (d.name, d.qual, d.params, .stmts d.body, d.scope, mainGlobals, [], builtinsNs) := e
      simp only [Option.some.injEq, Prod.mk.injEq] at e2
      obtain ⟨g1, g2, g3, g4, g5, g6, g7, g8⟩ := e2
      subst g1 g2 g3 g4 g5 g6 g7 g8
      obtain ⟨k1, k3, k4⟩ : PySem.W.codeIn K n13 d.qual = true ∧ He.dflB K n8 (d.dvs K) = true ∧ He.kwdB K n9 (d.kws K) = true := by simpa using c2
      exact ⟨_, _, _, ⟨⟨oc, od, n8, n9, n10, n11, n12, n13, n14, osl, rfl, q, k1, He.dflB_ok k3, He.kwdB_ok k4⟩, kp⟩, hP⟩
    | _ => cases c2
abbrev AlY : Type := (He.AlD × Bool) × List He.FnW
def obsY (fa : List He.Fa) (fn : List He.DefD) (pr : List ((Str × Str) × He.DefD)) (ck : List (PySem.W.Frag → Bool)) (K : PySem.W.Frag) : AlY := ((He.obsD fa fn K, (ck.all fun c => c K) && pr.all fun x => okP K x), pr.map fun x => fnP K x.1)
def obsYG (n : Nat) (fa : List He.Fa) (fn : List He.DefD) (pr : List ((Str × Str) × He.DefD)) (ck : List (PySem.W.Frag → Bool)) (g : Addr → Option Obj) : AlY := obsY fa fn pr ck (He.frG g (He.asD g n))
structure SaysY (fa : List He.Fa) (fn : List He.DefD) (pr : List ((Str × Str) × He.DefD)) (ck : List (PySem.W.Frag → Bool)) (K : PySem.W.Frag) : Prop where
  d : He.SaysD fa fn K
  k : (ck.all fun c => c K) = true
  p : (pr.all fun x => okP K x) = true
  v : (pr.map fun x => fnP K x.1) = pr.map fun x => x.2.val
theorem saysY_of {fa : List He.Fa} {fn : List He.DefD} {pr : List ((Str × Str) × He.DefD)} {ck : List (PySem.W.Frag → Bool)} {K : PySem.W.Frag} (e : obsY fa fn pr ck K = ((He.valD fn, true), pr.map fun x => x.2.val)) : SaysY fa fn pr ck K := by
  unfold obsY at e
  simp only [Prod.mk.injEq, Bool.and_eq_true] at e
  exact ⟨e.1.1, e.1.2.1, e.1.2.2, e.2⟩
def hookY (n : Nat) (fa : List He.Fa) (fn : List He.DefD) (pr : List ((Str × Str) × He.DefD)) (ck : List (PySem.W.Frag → Bool)) : PySem.W.Hook where
  α := AlY
  obs := fun s => obsYG n fa fn pr ck s.heap.get?
  val := fun _ => ((He.valD fn, true), pr.map fun x : (Str × Str) × He.DefD => x.2.val)
  says := fun _ h => ∃ K : PySem.W.Frag, K.In h ∧ SaysY fa fn pr ck K
  of := fun _ s e => ⟨He.frG s.heap.get? (He.asD s.heap.get? n), He.frG_in, saysY_of e⟩
  keeps := fun _ _ _ ⟨K, hK, c⟩ k => ⟨K, PySem.W.Frag.In.keeps hK k, c⟩
theorem obsYG_eq {n : Nat} {fa : List He.Fa} {fn : List He.DefD} {pr : List ((Str × Str) × He.DefD)} {ck : List (PySem.W.Frag → Bool)} {g : Addr → Option Obj} {s : Shared} (h : ∀ a, g a = s.heap.get? a) : obsYG n fa fn pr ck g = (hookY n fa fn pr ck).obs s := by
  have e : g = s.heap.get? := funext h
  rw [e]; rfl
theorem SaysY.prop {fa : List He.Fa} {fn : List He.DefD} {pr : List ((Str × Str) × He.DefD)} {ck : List (PySem.W.Frag → Bool)} {K : PySem.W.Frag} (S : SaysY fa fn pr ck K) (i : Nat) {c f : Str} {d : He.DefD} (h : pr[i]? = some ((c, f), d)) :
    ∃ p g fd, FunD K d.name d.qual d.params d.body d.scope (d.dvs K) (d.kws K) g fd ∧ PropOf K (He.ga K c) f p g := by
  refine prop_funD (c := c) (f := f) (d := d) ?_ ?_
  · have := congrArg (fun l : List He.FnW => l[i]?) S.v
    simp only [List.getElem?_map, h, Option.map_some, Option.some.injEq] at this
    exact this
  · exact List.all_eq_true.1 S.p _ (List.mem_of_getElem? h)
end ML
end
section
set_option Elab.async false
set_option linter.all false
set_option maxRecDepth 100000
set_option maxHeartbeats 2000000
set_option autoImplicit false
namespace ML
open PySem PySem.Spec PyProof.Rows L2
section
variable {u : Uv} {W : WX} {b : List Nat} {B G0 G G' H H' : Hp} {σ : L2.St} {ε : Env}
/-! ### [e for x in xs if c for y in ys if d] -/
def lc2L (vs vs1 : List Nat) (gf : D → Env → Option Env) (tf : Env → Out Bool) (fi : Env → Out (List D)) (gf1 : D → Env → Option Env) (tf1 : Env → Out Bool) (ef : Env → Out D) : List D → List D → Env → Out (List D)
  | [], acc, ε => .ok acc ε
  | d :: ds, acc, ε => match gf d ε with
    | none => .bad
    | some ε1 => match tf ε1 with
      | .ok true ε2 => (match fi ε2 with
        | .ok ds1 ε3 => (match lcL vs1 gf1 tf1 ef ds1 acc (wipeE ε3 vs1) with
          | .ok acc' ε4 => lc2L vs vs1 gf tf fi gf1 tf1 ef ds acc' (wipeE ε4 vs)
          | _ => .bad)
        | _ => .bad)
      | .ok false ε2 => lc2L vs vs1 gf tf fi gf1 tf1 ef ds acc (wipeE ε2 vs)
      | _ => .bad
def lc2M (vs vs1 : List Nat) (fi : Env → Out (List D)) (gf : D → Env → Option Env) (tf : Env → Out Bool) (fi1 : Env → Out (List D)) (gf1 : D → Env → Option Env) (tf1 : Env → Out Bool) (ef : Env → Out D) : Env → Out Sl := fun ε => (fi ε).bnd fun ds ε1 => (lc2L vs vs1 gf tf fi1 gf1 tf1 ef ds [] (wipeE ε1 vs)).bnd mkL
theorem wipe_no {ε : Env} {vs : List Nat} (hno : ∀ j s, j ∈ vs → ε[j]? = some s → s = .no) : wipeE ε vs = ε := by
  apply List.ext_getElem?
  intro i
  by_cases hi : i ∈ vs
  · cases e9 : ε[i]? with
    | none =>
      rw [List.getElem?_eq_none_iff] at e9 ⊢
      rw [wipeE_length]; exact e9
    | some s =>
      have := hno i s hi e9
      subst this
      have hl : i < (wipeE ε vs).length := by rw [wipeE_length]; exact (List.getElem?_eq_some_iff.mp e9).1
      have q : (wipeE ε vs)[i]? = some (wipeE ε vs)[i] := by simp [hl]
      rw [q, wipeE_in hi _ q]
  · exact wipeE_get hi
/-- the list at D0 is set anew -/
theorem RepE.accd {D0 : Addr} {as as' : List V} (R : RepE u (upd B D0 (.lst as)) G0 G H σ ε) (hb : B D0 = none) (h0 : G0 D0 = none) : RepE u (upd B D0 (.lst as')) G0 G (upd H D0 (.lst as')) σ ε := by
  obtain ⟨c1, c2, c3, c4⟩ := R.back hb h0 (fun _ z => by cases z)
  refine RepE.aside (l := D0) ?_ c1 upd_same c3
  refine ⟨c4.len, c4.g0, c4.gb, c4.gh.mut c1, c4.bh.mut hb, fun i s hs => ?_, c4.dj⟩
  obtain ⟨o, a1, a2⟩ := c4.sl i s hs
  refine ⟨o, a1, ?_⟩
  cases s with
  | no => trivial
  | fz d => exact a2
  | ow d =>
    obtain ⟨l, z1, z2, z3, z4⟩ := a2
    have hl : l ≠ D0 := fun q => by subst q; exact c3 i d hs (by rw [a1, z1])
    exact ⟨l, z1, z2, z3, z4.mono (Ex.refl _) fun o z => by rw [upd_ne hl]; exact z⟩
/-- the loop of one clause, its list at D0 -/
theorem lc_in {js vs : List Nat} {g : TG} {tt : TT} {te : TE} {gf : D → Env → Option Env} {tf : Env → Out Bool} {ef : Env → Out D} {J : It} {D0 : Addr} {ds acc accF : List D} {as : List V} {εF : Env} {Nx : Hp → Prop}
    (hg : RzG u js g gf) (ht : RzT u W tt tf) (he : RzE u W te ef) (hjs : ∀ j, j ∈ js → j ∈ vs) (hb : B D0 = none) (h0 : G0 D0 = none) (wJ : WalkD u J ds G) (R : RepE u (upd B D0 (.lst as)) G0 G H (wipe σ vs) ε) (ra : RepL u G acc as)
    (hno : ∀ j s, j ∈ vs → ε[j]? = some s → s = .no) (hL : lcL vs gf tf ef ds acc ε = .ok accF εF)
    (fin : ∀ G' H' as', Ex G G' → RepE u (upd B D0 (.lst as')) G0 G' H' (wipe σ vs) εF → RepL u G' accF as' → (∀ j s, j ∈ vs → εF[j]? = some s → s = .no) → Nx H') :
    ∃ W1 : Nat → Nat → Hp → Prop, (∃ m, W1 0 m H) ∧ ∀ j k H, W1 j k H → (J.stop j H ∧ Nx H) ∨ (J.go j H ∧ ∃ Nx1 : Hp → Prop, (∀ H', Nx1 H' → ∃ k', k' < k ∧ W1 (j + 1) k' H') ∧ ∀ x H', J.yld j H x H' → g x (wipe σ vs) H' fun σ3 H5 => wipe σ3 vs = wipe σ vs ∧ tt σ3 H5 fun b H6 =>
        if b = true then te σ3 H6 fun y H7 => ∃ acc, H7 D0 = some (.lst acc) ∧ acc.length < sizeLine ∧ Nx1 (upd H7 D0 (.lst (acc ++ [y]))) else Nx1 H6) := by
  refine ⟨fun i m H => m = ds.length - i ∧ i ≤ ds.length ∧ ∃ ε G2 acc as, Ex G G2 ∧ RepE u (upd B D0 (.lst as)) G0 G2 H (wipe σ vs) ε ∧ RepL u G2 acc as ∧ (∀ j s, j ∈ vs → ε[j]? = some s → s = .no) ∧ lcL vs gf tf ef (ds.drop i) acc ε = .ok accF εF,
    ⟨ds.length, by simp, Nat.zero_le _, ε, G, acc, as, Ex.refl _, R, ra, hno, hL⟩, ?_⟩
  rintro i m H2 ⟨rfl, hi, ε2, G2, acc2, as2, e2, R2, ra2, hno2, h2⟩
  by_cases hlt : i < ds.length
  · refine .inr ⟨wJ.go i G2 H2 hlt e2 R2.gh, fun H' => ∃ ε G2 acc as, Ex G G2 ∧ RepE u (upd B D0 (.lst as)) G0 G2 H' (wipe σ vs) ε ∧ RepL u G2 acc as ∧ (∀ j s, j ∈ vs → ε[j]? = some s → s = .no) ∧ lcL vs gf tf ef (ds.drop (i + 1)) acc ε = .ok accF εF,
      fun H' h => ⟨ds.length - (i + 1), by omega, rfl, hlt, h⟩, fun x H3 hy => ?_⟩
    obtain ⟨G3, ext, rx⟩ := wJ.yld i G2 H2 x H3 ds[i] (by simp [hlt]) e2 R2.gh hy
    rw [List.drop_eq_getElem_cons hlt] at h2
    unfold lcL at h2
    refine hg _ _ _ _ _ _ _ _ _ (R2.ext ext) rx ?_
    cases eg : gf ds[i] ε2 with
    | none => rw [eg] at h2; cases h2
    | some ε3 =>
      rw [eg] at h2
      simp only at h2
      refine fun σ4 R4 o4 => ⟨wipe_only o4 hjs, ht _ _ _ _ _ _ _ R4 ?_⟩
      have ow : ∀ i, i ∉ vs → (wipe σ vs)[i]? = σ4[i]? := fun i hi => (o4.2 i fun q => hi (hjs i q)).symm
      cases et : tf ε3 with
      | bad => rw [et] at h2; cases h2
      | ex x ε4 => rw [et] at h2; cases h2
      | ok b ε4 =>
        rw [et] at h2
        intro G5 H5 e5 R5
        show if b = true then _ else _
        cases b with
        | false =>
          simp only [Bool.false_eq_true, if_false]
          exact ⟨wipeE ε4 vs, G5, acc2, as2, (e2.trans ext.g).trans e5, R5.other vs o4.1.symm ow, RepL.mono (ext.g.trans e5) _ ra2, fun j s hj hs => wipeE_in hj s hs, h2⟩
        | true =>
          simp only [if_true]
          simp only at h2
          refine he _ _ _ _ _ _ _ R5 ?_
          cases ee : ef ε4 with
          | bad => rw [ee] at h2; cases h2
          | ex x ε4 => rw [ee] at h2; cases h2
          | ok y ε6 =>
            rw [ee] at h2
            intro G6 H6 e6 R6 v rv
            simp only at h2
            by_cases hz : acc2.length < 100000
            · rw [if_pos hz] at h2
              obtain ⟨c1, c2, c3, c4⟩ := R6.back hb h0 (fun _ z => by cases z)
              have eG : Ex G2 G6 := (ext.g.trans e5).trans e6
              exact ⟨as2, c2, sz_lt (by rw [← ra2.length]; exact hz), wipeE ε6 vs, G6, acc2 ++ [y], as2 ++ [v], e2.trans eG, (R6.accd hb h0).other vs o4.1.symm ow, (RepL.mono eG _ ra2).snoc rv, fun j s hj hs => wipeE_in hj s hs, h2⟩
            · rw [if_neg hz] at h2; cases h2
  · have e : i = ds.length := by omega
    subst e
    rw [List.drop_length] at h2
    simp only [lcL] at h2
    cases h2
    exact .inl ⟨wJ.stop G2 H2 e2 R2.gh, fin G2 H2 as2 e2 R2 ra2 hno2⟩
theorem rzm_lc2 {js vs js1 vs1 : List Nat} {wi wi1 : TI} {g g1 : TG} {tt tt1 : TT} {te : TE} {fi fi1 : Env → Out (List D)} {gf gf1 : D → Env → Option Env} {tf tf1 : Env → Out Bool} {ef : Env → Out D}
    (hi : RzI u W wi fi) (hg : RzG u js g gf) (ht : RzT u W tt tf) (hi1 : RzI u W wi1 fi1) (hg1 : RzG u js1 g1 gf1) (ht1 : RzT u W tt1 tf1) (he : RzE u W te ef) (hjs : ∀ j, j ∈ js → j ∈ vs := by decide) (hjs1 : ∀ j, j ∈ js1 → j ∈ vs1 := by decide) (hvs : ∀ j, j ∈ vs1 → j ∈ vs := by decide) :
    RzM u W (tLc2 wi g tt wi1 g1 tt1 te vs vs1) (lc2M vs vs1 fi gf tf fi1 gf1 tf1 ef) := fun B G0 G H σ ε Q R q =>
  hi _ _ _ _ _ _ _ R (q.bnd.mono fun ds ε1 G1 H1 e1 R1 h1 J wJ D0 hD => by
    have hBG := R1.free hD
    refine ⟨fun i m H => m = ds.length - i ∧ i ≤ ds.length ∧ ∃ ε G acc as, Ex G1 G ∧ RepE u (upd B D0 (.lst as)) G0 G H (wipe σ vs) ε ∧ RepL u G acc as ∧ (∀ j s, j ∈ vs → ε[j]? = some s → s = .no) ∧
      Pst u W B G0 σ G ((lc2L vs vs1 gf tf fi1 gf1 tf1 ef (ds.drop i) acc ε).bnd mkL) (SM u B σ Q), ⟨ds.length, by simp, Nat.zero_le _, wipeE ε1 vs, G1, [], [], Ex.refl _, ?_, by simp [RepL], fun j s hj hs => wipeE_in hj s hs, h1⟩, ?_⟩
    · exact ((R1.lay hD (.lst [])).aside hBG.1 upd_same (apart_new R1 hD)).other vs (wipe_length _ _) fun i hi => wipe_get hi
    · rintro i m H2 ⟨rfl, hi, ε2, G2, acc, as, e2, R2, ra, hno, h2⟩
      obtain ⟨b1, b2, b3, b4⟩ := R2.back hBG.2.1 hBG.2.2 (fun _ z => by cases z)
      by_cases hlt : i < ds.length
      · refine .inr ⟨wJ.go i G2 H2 hlt e2 R2.gh, fun H' => ∃ ε G acc as, Ex G1 G ∧ RepE u (upd B D0 (.lst as)) G0 G H' (wipe σ vs) ε ∧ RepL u G acc as ∧ (∀ j s, j ∈ vs → ε[j]? = some s → s = .no) ∧
          Pst u W B G0 σ G ((lc2L vs vs1 gf tf fi1 gf1 tf1 ef (ds.drop (i + 1)) acc ε).bnd mkL) (SM u B σ Q), fun H' h => ⟨ds.length - (i + 1), by omega, rfl, hlt, h⟩, fun x H3 hy => ?_⟩
        obtain ⟨G3, ext, rx⟩ := wJ.yld i G2 H2 x H3 ds[i] (by simp [hlt]) e2 R2.gh hy
        rw [List.drop_eq_getElem_cons hlt] at h2
        unfold lc2L at h2
        refine hg _ _ _ _ _ _ _ _ _ (R2.ext ext) rx ?_
        cases eg : gf ds[i] ε2 with
        | none => rw [eg] at h2; exact h2.elim
        | some ε3 =>
          rw [eg] at h2
          simp only at h2
          refine fun σ4 R4 o4 => ⟨wipe_only o4 hjs, ht _ _ _ _ _ _ _ R4 ?_⟩
          have ow : ∀ i, i ∉ vs → (wipe σ vs)[i]? = σ4[i]? := fun i hi => (o4.2 i fun q => hi (hjs i q)).symm
          cases et : tf ε3 with
          | bad => rw [et] at h2; exact h2.elim
          | ex x ε4 => rw [et] at h2; exact h2.elim
          | ok b ε4 =>
            rw [et] at h2
            intro G5 H5 e5 R5
            show if b = true then _ else _
            cases b with
            | false =>
              simp only [Bool.false_eq_true, if_false]
              exact ⟨wipeE ε4 vs, G5, acc, as, (e2.trans ext.g).trans e5, R5.other vs o4.1.symm ow, RepL.mono (ext.g.trans e5) _ ra, fun j s hj hs => wipeE_in hj s hs, Pst.up (G := G2) h2 (ext.g.trans e5)⟩
            | true =>
              simp only [if_true]
              simp only at h2
              refine hi1 _ _ _ _ _ _ _ R5 ?_
              cases ei : fi1 ε4 with
              | bad => rw [ei] at h2; exact h2.elim
              | ex x ε4 => rw [ei] at h2; exact h2.elim
              | ok ds1 ε5 =>
                rw [ei] at h2
                intro G6 H6 e6 R6 J1 wJ1
                simp only at h2
                cases el : lcL vs1 gf1 tf1 ef ds1 acc (wipeE ε5 vs1) with
                | bad => rw [el] at h2; exact h2.elim
                | ex x ε4 => rw [el] at h2; exact h2.elim
                | ok accF εF =>
                  rw [el] at h2
                  simp only at h2
                  have eG : Ex G2 G6 := (ext.g.trans e5).trans e6
                  refine lc_in hg1 ht1 he hjs1 hBG.2.1 hBG.2.2 wJ1 (R6.other (σ' := wipe σ4 vs1) vs1 (wipe_length _ _) fun i hi => wipe_get hi) (RepL.mono eG _ ra) (fun j s hj hs => wipeE_in hj s hs) el fun G7 H7 as7 e7 R7 ra7 hno7 => ?_
                  refine ⟨wipeE εF vs, G7, accF, as7, (e2.trans eG).trans e7, ?_, ra7, fun j s hj hs => wipeE_in hj s hs, Pst.up (G := G2) h2 (eG.trans e7)⟩
                  refine R7.other vs (by rw [wipe_length, wipe_length, o4.1, wipe_length]) fun i hi => ?_
                  rw [ow i hi, wipe_get (fun q => hi (hvs i q))]
      · have e : i = ds.length := by omega
        subst e
        rw [List.drop_length] at h2
        have R9 : RepE u B G0 G2 H2 σ ε2 := by
          have z := b4.other (σ' := σ) vs (wipe_length _ _).symm fun i hi => (wipe_get hi).symm
          rwa [wipe_no hno] at z
        have ap : Apart σ ε2 D0 := fun j d hj hs => by
          by_cases hv : j ∈ vs
          · have := hno j _ hv hj; cases this
          · exact b3 j d hj (by rw [wipe_get hv]; exact hs)
        exact .inl ⟨wJ.stop G2 H2 e2 R2.gh, Pst.ret (W := W) (B := B) (S := SM u B σ Q) (a := Sl.ow (.lst acc)) h2 R9 _ ⟨D0, rfl, b1, hBG.2.1, ⟨as, b2, ra⟩, ap⟩⟩)
end
end ML
end
section
set_option Elab.async false
set_option linter.all false
set_option maxRecDepth 100000
set_option maxHeartbeats 2000000
set_option autoImplicit false
namespace MH
open PySem PySem.Spec PyProof.Rows L2
/-- {k: v}, k a tuple -/
def tDispT (tk tv : TE) : TE := fun σ H Q => ∀ p, H p = none → tk σ (upd H p (.dT [])) fun x H1 => tv σ H1 fun y H2 => H2 p = some (.dT []) ∧ ∃ (b : Addr) (k : List Key), x = .ref b ∧ H2 b = some (.tup (k.map kV)) ∧ Q (.ref p) (upd H2 p (.dT [(k, y)]))
theorem pe_dispT {X : Cx} {pos : Pos} {k v : Expr} {tk tv : TE} (hu : X.A.units + 1 < cLine) (hk : PE X k tk) (hv : PE X v tv) : PE X (.Dict [some k] [v] pos) (tDispT tk tv) := by
  refine ⟨fun pins s σ H Q I q => ?_⟩
  have hn := I.hok.fresh (Nat.le_refl s.heap.objs.size)
  have I1 := I.laid (a := s.heap.objs.size) (o := .dT []) (h' := s.heap.push { cls := .type "dict", data := .dict #[] }) (t' := s.toks) (fun _ _ q => Heap.get?_push_of_some _ q) (Nat.le_refl _) (dt_empty s.heap I.big)
  refine wpAny_Dict_any rfl rfl (by simp) (by simp) ?_
  refine thn ((pps_cons hk hv pps_nil : PPs X pos [some k] [v] [(tk, tv)]).run pins _ σ _ (fun ps H' => match ps with
    | [(x, y)] => H' s.heap.objs.size = some (.dT []) ∧ ∃ (b : Addr) (kk : List Key), x = .ref b ∧ H' b = some (.tup (kk.map kV)) ∧ Q (.ref s.heap.objs.size) (upd H' s.heap.objs.size (.dT [(kk, y)]))
    | _ => False) I1 (q _ hn)) fun ws s2 ⟨ps, H2, I2, rel, q1⟩ => ?_
  cases rel with
  | nil => exact q1.elim
  | @cons a b as bs h t =>
    cases t with
    | cons _ _ => exact q1.elim
    | nil =>
      obtain ⟨x, y⟩ := a
      obtain ⟨u, r⟩ := b
      obtain ⟨e, b, kk, rfl, eb, q2⟩ := q1
      obtain ⟨h1, h2⟩ := h
      obtain rfl : u = Value.ref b := h1
      obtain ⟨z, hd, xs, rel, dd⟩ := dt_of I2.hok e
      have hz : xs.length ≤ sizeLine := by rw [← Paired.length rel]; exact z
      unfold storeAll
      rw [List.forIn_cons]
      refine wpAny_bind (wpAny_bind (wpAny_dictSet_heap (hsz := hz) (show (tupleKind (mixKind X.prog X.w)).room X.A from by show X.A.units < cLine; omega) (key_of I2.hok eb) dd fun h' dd' hs => wpAny_pure ?_))
      show wpAny _ _ (forIn [] _ _) _ _ _
      rw [List.forIn_nil]
      refine wpAny_pure ?_
      have hl : (putK ([] : List (List Key × V)) kk y).length ≤ sizeLine := by have := length_putK ([] : List (List Key × V)) kk y; rw [sizeLine_eq]; simp at this; omega
      obtain ⟨q, es, ep, hq, h2', h3, h4, _, h5⟩ := dd'
      refine ⟨.ref s.heap.objs.size, _, d_write (ob := .dT [(kk, y)]) I2 (by rw [e]; exact True.intro) hs ⟨q, hq⟩ ⟨hl, hd, _, (rel.put kk eb h2).keeps fun c ys ec => ?_, q, es, ep, hq, h2', h3, h4, h5⟩, rfl, q2⟩
      rw [upd_ne (ne_of ec e (fun z => nomatch z))]
      exact ec
/-- list(d), d a dict with any keys -/
def rListA : List V → Hp → VK → Prop := fun xs H Q => (∃ (a : Addr) (kvs : List (Key × V)), xs = [.ref a] ∧ Rd H a (.dK kvs) ∧ ∀ p, H p = none → Q (.ref p) (upd H p (.lst (kvs.map fun kv => kV kv.1)))) ∨ rListT xs H Q
theorem cr_listA {X : Cx} (hc : X.calm = true) : CallR X (.type "list") rListA := (call_listD hc).or (call_list_dT hc)
end MH
namespace ML
open PySem PySem.Spec PyProof.Rows L2
section
variable {u : Uv} {W : WX} {b : List Nat} {B G0 G H : Hp} {σ : L2.St} {ε : Env}
def done1TM (fk fv : Env → Out D) : Env → Out Sl := fun ε => (fk ε).bnd fun k ε1 => (fv ε1).bnd fun d ε2 => Out.opt ((toKeys k).map fun k => .ow (.dt [k] [d])) ε2
theorem rzm_d1T {tk tv : TE} {fk fv : Env → Out D} (hk : RzE u W tk fk) (hv : RzE u W tv fv) : RzM u W (MH.tDispT tk tv) (done1TM fk fv) := fun B G0 G H σ ε Q R q p hp => by
  have hf := R.free hp
  have R1 := (R.lay hp (.dT [])).aside hf.1 upd_same (apart_new R hp)
  refine hk _ _ _ _ _ _ _ R1 ((q.bnd.less (Ex.upd hf.2.1)).mono fun k ε1 G1 H1 e1 R2 h1 v rv => hv _ _ _ _ _ _ _ R2 ((h1.bnd.less (Ex.upd hf.2.1)).mono fun d ε2 G2 H2 e2 R3 h2 w rw => ?_))
  obtain ⟨z, hz, h3⟩ := h2.opt
  cases ek : toKeys k with
  | none => rw [ek] at hz; cases hz
  | some kk =>
    rw [ek] at hz
    cases hz
    obtain ⟨b1, b2, b3, b4⟩ := R3.back hf.2.1 hf.2.2 (fun _ z => by cases z)
    obtain ⟨bb, hb, eb⟩ := toKeys_rep ek rv
    refine ⟨b2, bb, kk, hb, R3.gh _ _ (e2 _ _ eb), ?_⟩
    have eU : upd H2 p (.dT [(kk, w)]) = upd H2 p (.dT ([kk].zip [w])) := by simp
    rw [eU]
    refine h3.ret' (Ex.refl _) ?_ _ ⟨p, rfl, b1, hf.2.1, ⟨[w], upd_same, rfl, RepL.one rw⟩, b3⟩
    refine ⟨b4.len, b4.g0, b4.gb, b4.gh.mut b1, b4.bh.mut hf.2.1, fun i s hs => ?_, b4.dj⟩
    obtain ⟨o, a1, a2⟩ := b4.sl i s hs
    refine ⟨o, a1, ?_⟩
    cases s with
    | no => trivial
    | fz d => exact a2
    | ow d =>
      obtain ⟨l, z1, z2, z3, z4⟩ := a2
      have hl : l ≠ p := fun q => by subst q; exact b3 i d hs (by rw [a1, z1])
      exact ⟨l, z1, z2, z3, z4.mono (Ex.refl _) fun o z => by rw [upd_ne hl]; exact z⟩
theorem rep_keyL : ∀ (ks : List Key) (ws : List V), ks.length = ws.length → RepL u G (ks.map keyD) ((ks.zip ws).map fun kv => kV kv.1)
  | [], [], _ => by simp [RepL]
  | k :: ks, w :: ws, h => by
    refine ⟨_, _, rfl, ?_, rep_keyL ks ws (by simpa using h)⟩
    cases k with
    | inl i => exact rep_int.mpr rfl
    | inr i => exact rep_str.mpr rfl
  | [], _ :: _, h => by cases h
  | _ :: _, [], h => by cases h
/-- list(d), d a name, which stays one's own -/
def lstD : D → Option D
  | .dk ks _ => some (.lst (ks.map keyD))
  | .dt ks _ => some (.lst (ks.map tupD))
  | _ => none
def listPF (i : Nat) : Env → Out D := fun ε => match (lookAt i ε).bind lstD with
  | some z => .ok z ε
  | none => .bad
theorem rz_listP {i : Nat} : RzE u W (tCB MH.rListA (tCons (tVar i) tNil)) (listPF i) := fun B G0 G H σ ε Q R q => by
  unfold listPF at q
  cases e0 : lookAt i ε with
  | none => rw [e0] at q; exact q.elim
  | some d =>
    rw [e0] at q
    simp only [Option.bind_some] at q
    obtain ⟨v, hv, rv⟩ := R.look e0
    refine ⟨v, hv, ?_⟩
    show MH.rListA [v] H Q
    cases d with
    | dk ks xs =>
      simp only [lstD] at q
      simp only [Rep] at rv
      obtain ⟨a, ws, rfl, c1, c2, c3⟩ := rv
      refine .inl ⟨a, _, rfl, .inl c1, fun p hp => ?_⟩
      have R1 := R.new hp (.lst ((ks.zip ws).map fun kv => kV kv.1))
      exact q.ret' (R.exn hp _) R1 _ (rep_lst.mpr ⟨p, _, rfl, upd_same, rep_keyL ks ws c2⟩)
    | dt ks xs =>
      simp only [lstD] at q
      simp only [Rep] at rv
      obtain ⟨a, ws, rfl, c1, c2, c3⟩ := rv
      refine .inr ⟨a, _, rfl, .inl c1, fun p bs hp hk => ?_⟩
      have hbl : bs.length = ks.length := by
        have := MH.isKeys_len hk
        rw [List.length_zip] at this; omega
      have rr := rep_refs (u := u) R.gh (bs.zip (ks.zip ws)) fun z hz => keys_zip hk z hz
      have e1 : (bs.zip (ks.zip ws)).map (fun z => tupD z.2.1) = ks.map tupD := by
        conv => rhs; rw [← zip_keys (bs := bs) c2 hbl]
        rw [List.map_map]; rfl
      have e2 : (bs.zip (ks.zip ws)).map (fun z => V.ref z.1) = bs.map V.ref := by
        have : (bs.zip (ks.zip ws)).map (fun z => z.1) = bs := List.map_fst_zip (by rw [List.length_zip]; omega)
        conv => rhs; rw [← this]
        rw [List.map_map]; rfl
      rw [e1, e2] at rr
      have R1 := R.grow (learn_ex (bs := bs) R.gh) (learn_nw R.gh (keys_tup hk)) (Ex.refl _) (learn_gh R.gh)
      have R2 := R1.new hp (.lst (bs.map V.ref))
      exact q.ret' ((learn_ex R.gh).trans (R1.exn hp _)) R2 _ (rep_lst.mpr ⟨p, _, rfl, upd_same, RepL.mono (R1.exn hp _) _ rr⟩)
    | _ => exact q.elim
/-! ### several names at once, by a tuple -/
theorem slv_lay {v : V} {s : Sl} {p : Addr} {o : HO} (h : SlV u B G H σ ε v s) (hp : H p = none) : SlV u B G (upd H p o) σ ε v s := by
  cases s with
  | no => exact h
  | fz d => exact h
  | ow d =>
    obtain ⟨l, rfl, hg, hb, w, ap⟩ := h
    exact ⟨l, rfl, hg, hb, w.mono (Ex.refl _) fun o z => Ex.upd hp _ _ z, ap⟩
theorem slvs_lay {p : Addr} {o : HO} (hp : H p = none) : ∀ {ss : List Sl} {vs : List V}, SlVs u B G H σ ε ss vs → SlVs u B G (upd H p o) σ ε ss vs
  | [], _, h => h
  | s :: ss, vs, h => by
    obtain ⟨v, r, rfl, h1, h2, h3⟩ := h
    exact ⟨v, r, rfl, slv_lay h1 hp, slvs_lay hp h2, h3⟩
theorem slvs_set {i : Nat} {v : V} {s : Sl} (h : SlV u B G H σ ε v s) : ∀ {ss : List Sl} {vs : List V}, SlVs u B G H σ ε ss vs → (∀ l d, s = .ow d → v = .ref l → ∀ (k : Nat) (d' : D), ss[k]? = some (.ow d') → vs[k]? ≠ some (.ref l)) → SlVs u B G H (σ.set i (some v)) (ε.set i s) ss vs
  | [], _, k, _ => k
  | t :: ss, vs, k, hd => by
    obtain ⟨w, r, rfl, h1, h2, h3⟩ := k
    refine ⟨w, r, rfl, slv_set h h1 fun l d es ev d' et ew => hd l d es ev 0 d' (by simp [et]) (by simp [ew]), slvs_set h h2 fun l d es ev k d' ek => ?_, h3⟩
    exact fun q => hd l d es ev (k + 1) d' (by simpa using ek) (by simpa using q)
theorem slvs_len : ∀ {ss : List Sl} {vs : List V}, SlVs u B G H σ ε ss vs → ss.length = vs.length
  | [], _, h => by subst h; rfl
  | s :: ss, vs, h => by
    obtain ⟨v, r, rfl, h1, h2, h3⟩ := h
    simp [slvs_len h2]
def gNames : List Nat → TGs
  | [] => gNil
  | i :: is => gCons (gName i) (gNames is)
def setAll : List Nat → List Sl → Env → Env
  | i :: is, s :: ss, ε => setAll is ss (ε.set i s)
  | _, _, ε => ε
def parN (is : List Nat) (f : Env → Out (List Sl)) : Env → SO := fun ε => (f ε).toS fun ss ε1 => if ss.length = is.length ∧ ss.length ≤ 100 then .nx (setAll is ss ε1) else .bad
theorem names_run {Q : L2.St → Hp → Prop} : ∀ {is : List Nat} {ss : List Sl} {vs : List V} {σ : L2.St} {ε : Env}, ss.length = is.length → (∀ k, k ∈ b → k ∉ is) → RepE u B G0 G H σ ε → SlVs u B G H σ ε ss vs →
    (∀ σ', RepE u B G0 G H σ' (setAll is ss ε) → Kp b σ σ' → Q σ' H) → gNames is vs σ H Q
  | [], [], vs, σ, ε, _, _, R, h, k => ⟨h, k _ R .refl⟩
  | i :: is, s :: ss, vs, σ, ε, hl, hb, R, h, k => by
    obtain ⟨v, r, rfl, h1, h2, h3⟩ := h
    refine ⟨v, r, rfl, ?_⟩
    show gNames is r (σ.set i (some v)) H Q
    exact names_run (by simpa using hl) (fun m e q => hb m e (by simp [q])) (R.setS i h1) (slvs_set h1 h2 h3) fun σ' R' kk => k σ' R' ((kp_set fun e => hb _ e (by simp)).trans kk)
  | [], _ :: _, _, _, _, hl, _, _, _, _ => by cases hl
  | _ :: _, [], _, _, _, hl, _, _, _, _ => by cases hl
theorem rs_parN {is : List Nat} {n : Nat} {ta : TA} {f : Env → Out (List Sl)} (ha : RzMs u W ta f) (hn : n = is.length := by rfl) (hk : ∀ k, k ∈ b → k ∉ is := by decide) : RzS u W b (tAsg (tTup ta) (gTup u.K n (gNames is))) (parN is f) := fun B G0 G H σ ε N R q =>
  ha _ _ _ _ _ _ _ R (q.bnd.mono fun ss ε1 G1 H1 e1 R1 h1 vs sv => by
    have hl := slvs_len sv
    split at h1
    · rename_i hc
      refine ⟨sz_of (by omega), fun p hp => ⟨p, vs, rfl, SqT.of upd_same, by omega, ?_⟩⟩
      exact names_run hc.1 hk (R1.lay hp _) (slvs_lay hp sv) fun σ' R' kk => h1.next R' kk
    · exact h1.elim)
/-- a, b, c = x, y, z by a tuple -/
theorem rs_par3T {i j k : Nat} {ta : TA} {f : Env → Out (List Sl)} (ha : RzMs u W ta f) (hi : ∀ m, m ∈ b → m ∉ [i, j, k] := by decide) :
    RzS u W b (tAsg (tTup ta) (gTup u.K 3 (gCons (gName i) (gCons (gName j) (gCons (gName k) gNil))))) (par3F i j k f) := fun B G0 G H σ ε N R q =>
  rs_parN (is := [i, j, k]) ha rfl hi _ _ _ _ _ _ _ R (by
    have e : parN [i, j, k] f ε = par3F i j k f ε ∨ par3F i j k f ε = .bad := by
      unfold parN par3F
      cases f ε with
      | ok ss ε1 => match ss with
        | [s, t, r] => exact .inl rfl
        | [] => exact .inr rfl
        | [_] => exact .inr rfl
        | [_, _] => exact .inr rfl
        | _ :: _ :: _ :: _ :: _ => exact .inr rfl
      | _ => exact .inl rfl
    rcases e with e | e
    · rw [e]; exact q
    · rw [e] at q; exact q.elim)
end
end ML
end
section
set_option Elab.async false
set_option linter.all false
set_option maxRecDepth 100000
set_option maxHeartbeats 2000000
set_option autoImplicit false
/-! ## sorted(set(x)), len(set(x)) -/
namespace MH
open PySem PySem.Spec PyProof.Rows L2
open PySem.W (EachIs AllAlike Sortable dataLe)
/-- each once -/
def ded {α : Type} [DecidableEq α] : List α → List α
  | [] => []
  | x :: xs => if x ∈ xs then ded xs else x :: ded xs
theorem mem_ded {α : Type} [DecidableEq α] : ∀ {xs : List α} {y : α}, y ∈ ded xs ↔ y ∈ xs
  | [], y => by simp [ded]
  | x :: xs, y => by
    rw [ded]
    split
    · rename_i h
      rw [mem_ded, List.mem_cons]
      exact ⟨.inr, fun q => q.elim (fun e => e ▸ h) id⟩
    · rw [List.mem_cons, mem_ded, List.mem_cons]
theorem nodup_ded {α : Type} [DecidableEq α] : ∀ (xs : List α), (ded xs).Nodup
  | [] => List.nodup_nil
  | x :: xs => by
    rw [ded]
    split
    · exact nodup_ded xs
    · rename_i h
      exact List.nodup_cons.2 ⟨fun q => h (mem_ded.1 q), nodup_ded xs⟩
theorem ded_len {α : Type} [DecidableEq α] {l xs : List α} (hn : l.Nodup) (h : ∀ k, k ∈ l ↔ k ∈ xs) : l.Perm (ded xs) :=
  (List.perm_ext_iff_of_nodup hn (nodup_ded xs)).2 fun k => (h k).trans mem_ded.symm
theorem setR_count {w : World} {h : Heap} {a : Addr} {ns : List Int} {c : Nat} (R : SetR w h a (fun j => decide (j ∈ ns)) c) : c = (ded ns).length := by
  obtain ⟨o, es, ep, t, _, _, _, _, nd, hm, _, _, hn, _⟩ := R
  have := (ded_len (xs := ns) nd fun k => by rw [← hm k]; simp).length_eq
  rw [← this, List.length_map, Array.length_toList]; exact hn.symm
/-- set(t), t a tuple of ints -/
def rSetIT (K : PySem.W.Frag) (w : World) : List V → Hp → VK → Prop := fun xs H Q => ∃ (l : Addr) (ns : List Int), xs = [V.ref l] ∧ SqT K H l (ns.map V.int) ∧ ns.length + 1 < scanBound ∧
  ∀ p, H p = none → Q (.ref p) (upd H p (SetO w p (fun j => decide (j ∈ ns)) (ded ns).length))
theorem cr_setIT {X : Cx} (hc : X.calm = true) : CallR X (.type "set") (rSetIT X.K X.w) := by
  intro pins s σ H xs us Q I r h
  obtain ⟨l, ns, rfl, hl, hb, q⟩ := h
  rw [Vals.ref1 r]
  obtain ⟨its, rv, ht, hz⟩ := I.tuple hl
  have hn : H s.heap.objs.size = none := I.hok.fresh (Nat.le_refl _)
  refine call_set_tupI ns (I.ok.hd hc) ht (by simpa using rv.ints) hb fun h' tk c R hc k => ?_
  have := setR_count R
  subst this
  exact ⟨.ref _, upd H s.heap.objs.size (SetO X.w s.heap.objs.size (fun j => decide (j ∈ ns)) (ded ns).length), I.laid (t' := tk) k (Nat.le_refl _) (setO_new R), rfl, q _ hn⟩
def rSetS (K : PySem.W.Frag) (P : Program) (w : World) : List V → Hp → VK → Prop := fun xs H Q => rSetIT K w xs H Q ∨ rSetOfT K P w xs H Q
theorem cr_setS {X : Cx} {k : Nat} (hr : Room k X.A) (hc : X.calm = true) : CallR X (.type "set") (rSetS X.K X.prog X.w) := (cr_setIT hc).or (cr_setOfT hc (by have := hr.un; omega))
/-- the data of a tuple of ints -/
def pyT (k : List Int) : PyData := .tuple (k.map .int)
theorem perm_inv {α β : Type} {f : α → β} {vs ys : List β} (h : vs.Perm ys) : ∀ L : List α, ys = L.map f → ∃ L1 : List α, L1.Perm L ∧ vs = L1.map f := by
  induction h with
  | nil => intro L e; exact ⟨[], by cases L <;> simp_all, rfl⟩
  | cons x h ih =>
    intro L e
    cases L with
    | nil => cases e
    | cons a L =>
      simp only [List.map_cons, List.cons.injEq] at e
      obtain ⟨L1, h1, h2⟩ := ih L e.2
      exact ⟨a :: L1, h1.cons a, by rw [e.1, h2]; rfl⟩
  | swap x y l =>
    intro L e
    cases L with
    | nil => cases e
    | cons a L =>
      cases L with
      | nil => cases e
      | cons b L =>
        simp only [List.map_cons, List.cons.injEq] at e
        exact ⟨b :: a :: L, List.Perm.swap .., by rw [e.1, e.2.1, e.2.2]; rfl⟩
  | trans h1 h2 ih1 ih2 =>
    intro L e
    obtain ⟨L1, p1, e1⟩ := ih2 L e
    obtain ⟨L2, p2, e2⟩ := ih1 L1 e1
    exact ⟨L2, p2.trans p1, e2⟩
/-- sorted(s), s a set of tuples of ints -/
def rSortSetT (K : PySem.W.Frag) (P : Program) (w : World) : List V → Hp → VK → Prop := fun vs H Q => ∃ (a : Addr) (L : List (Addr × List Int)), vs = [V.ref a] ∧ H a = some (SetTO P w a L) ∧ (∀ p ∈ L, SqT K H p.1 (p.2.map V.int)) ∧
  ∀ (L' : List (Addr × List Int)) (p : Addr), L'.Perm L → (L.map (·.2)).Nodup → L'.Pairwise (fun q r => dataLe false pyT q.2 r.2 = true) → H p = none → Q (.ref p) (upd H p (.lst (L'.map fun q => V.ref q.1)))
theorem ints_dp {K : PySem.W.Frag} {H : Hp} : ∀ (k : List Int), DpAll K H (k.map V.int) (k.map .int)
  | [] => .nil
  | i :: k => .cons (.int i) (ints_dp k)
theorem alike_T (a b : List Int) : PySem.W.alike (pyT a) (pyT b) = true := by
  unfold pyT
  show PySem.W.alikeAll _ _ = true
  induction a generalizing b with
  | nil => cases b <;> rfl
  | cons x a ih =>
    cases b with
    | nil => rfl
    | cons y b =>
      simp only [List.map_cons, PySem.W.alikeAll, Bool.and_eq_true]
      exact ⟨rfl, ih b⟩
theorem depth_T (k : List Int) : (pyT k).depth ≤ 1 := by
  unfold pyT
  simp only [PyData.depth]
  have : ∀ l : List Int, PyData.depthAll (l.map PyData.int) = 0 := by
    intro l
    induction l with
    | nil => rfl
    | cons x l ih => simp [PyData.depthAll, PyData.depth, ih]
  rw [this]; omega
theorem refs_each {α : Type} {f : α → Addr} {P : Value → α → Prop} : ∀ (L : List α), (∀ q ∈ L, P (.ref (f q)) q) → EachIs P (L.map fun q => Value.ref (f q)) L
  | [], _ => .nil
  | q :: L, h => .cons (h q (by simp)) (refs_each L fun y hy => h y (by simp [hy]))
theorem cr_sortSetT {X : Cx} {k : Nat} (hr : Room k X.A) (hc : X.calm = true) : CallR X (.builtin "sorted") (rSortSetT X.K X.prog X.w) := by
  intro pins s σ H vs us Q I r h
  obtain ⟨a, L, rfl, ha, hk, q⟩ := h
  have R0 : SetT0 X.prog X.w s.heap a L := (I.hok a _ ha).1
  obtain ⟨es, ep, t, R⟩ := R0.full fun p hp => I.isT (hk p hp)
  rw [Vals.ref1 r]
  obtain ⟨o, ho, hex, hd⟩ := R.ob
  have hsz := R.size
  have hfew := R.few
  refine Calls.call_function_entry PyProof.Rows.kind_sorted PyProof.Rows.plain_sorted PyProof.Rows.entry_sorted (PyProof.Rows.args_sorted1 _) ?_
  unfold Builtin.«sorted»
  refine wpAny_bind (m := checkCount "sorted" 1 1 _) (wpAny_pure ?_)
  refine wpAny_bind (collect_set (A := X.A.in1) (I.ok.hd hc) ⟨o, ho, hex.1, hd⟩ R.fits (by unfold scanBound; omega) R.tab.ris R.led fun s1 vs k1 hz g1 o1 pm => ?_)
  have hes : es.toList.map (·.2) = L.map fun q => Value.ref q.1 := by
    rw [R.rows]
    unfold rowsOf
    rw [List.map_map] <;> rfl
  rw [hes] at pm
  obtain ⟨L1, pL, eL⟩ := perm_inv pm L rfl
  subst eL
  have hl1 : L1.length = L.length := pL.length_eq
  have hacl : (L1.map fun q => Value.ref q.1).length ≤ sizeLine := by rw [List.length_map, sizeLine_eq]; omega
  refine wpAny_bind (wpAny_newList ?_ hacl)
  generalize hits : (L1.map fun q => Value.ref q.1) = its at *
  have hoL : (s1.heap.push (seqObj "list" its.toArray 0)).get? s1.heap.objs.size = some (seqObj "list" its.toArray 0) := Heap.get?_push_size _ rfl
  have e1 : EachIs (fun (v : Value) (b : Addr × List Int) => v = .ref b.1) its L1 := by rw [← hits]; exact refs_each L1 fun _ _ => rfl
  have er' : EachIs (fun v (b : Addr × List Int) => ∃ as, Reads (PySem.W.sortingHeap (s1.heap.push (seqObj "list" its.toArray 0)) s1.heap.objs.size its) v (pyT b.2) as) its L1 := by
    have : EachIs (fun v (b : Addr × List Int) => ∃ as, Reads s.heap v (pyT b.2) as) its L1 := by
      rw [← hits]
      exact refs_each (f := fun q : Addr × List Int => q.1) L1 fun p hp => Dp.reads I _ _ _ (.tup (hk p (pL.mem_iff.1 hp)) (ints_dp _)) rfl
    exact this.mono fun _ _ ⟨as, r⟩ => ⟨as, PyProof.Rows.Reads.keeps (fun b o e => PySem.W.sortingHeap_old (Nat.ne_of_lt (Heap.lt_size (k1 _ _ e))) (Heap.get?_push_of_some _ (k1 _ _ e))) r⟩
  have hal : AllAlike (L1.map fun b => pyT b.2) := by
    intro x hx y hy
    obtain ⟨a, _, rfl⟩ := List.mem_map.1 hx
    obtain ⟨b, _, rfl⟩ := List.mem_map.1 hy
    exact alike_T _ _
  have S := sortsAt (prog := X.prog) (w := X.w) (A := X.A.in1.in1) (s := { s1 with heap := PySem.W.sortingHeap (s1.heap.push (seqObj "list" its.toArray 0)) s1.heap.objs.size its })
    (PySem.W.each_map (R := fun v d => ∃ as, Reads (PySem.W.sortingHeap (s1.heap.push (seqObj "list" its.toArray 0)) s1.heap.objs.size its) v d as) (fun b : Addr × List Int => pyT b.2) er') hal (.inl fun p hp => by
      obtain ⟨b, _, rfl⟩ := List.mem_map.1 hp
      exact ⟨_, rfl⟩) (fun p hp => by
      obtain ⟨b, _, rfl⟩ := List.mem_map.1 hp
      have h1 := depth_T b.2
      have := hr.un
      show X.A.units + 1 + 1 + _ < _
      omega)
  refine wpAny_bind (wpAny_holding (wpAny_call_entry PyProof.Rows.slot_list_sort ⟨_, hoL, rfl⟩ PyProof.Rows.entry_list_sort
    (PySem.W.list_sort_vals (s := { s1 with heap := s1.heap.push (seqObj "list" its.toArray 0) }) hoL S hacl ⟨_, rfl, ?_⟩) (PyProof.Rows.args_list_sort _)))
  generalize hout : PySem.W.sortVals (PySem.W.dataKind (PySem.W.sortingHeap (s1.heap.push (seqObj "list" its.toArray 0)) s1.heap.objs.size its) (L1.map fun b => pyT b.2)) false its its = out
  have so := PySem.W.sortVals_data false (enc := fun b : Addr × List Int => pyT b.2) e1 er' hal
  rw [hout] at so
  obtain ⟨e', he'⟩ := PyProof.Rows.sortedHeap_at (vs := its) (out := out.toArray) hoL
  have hp1 : (L1.mergeSort (dataLe false fun b => pyT b.2)).Perm L := (List.mergeSort_perm _ _).trans pL
  have hlen : ((L1.mergeSort (dataLe false fun b => pyT b.2)).map fun b => V.ref b.1).length ≤ sizeLine := by
    rw [List.length_map, hp1.length_eq, sizeLine_eq]; omega
  have hn : H s1.heap.objs.size = none := I.hok.fresh hz
  have k2 : ∀ b u, s.heap.get? b = some u → (PyProof.Rows.sortedHeap (s1.heap.push (seqObj "list" its.toArray 0)) s1.heap.objs.size its out.toArray).get? b = some u := fun b u e => by
    have hb : b < s1.heap.objs.size := Heap.lt_size (k1 _ _ e)
    rw [PyProof.Rows.sortedHeap_old (Nat.ne_of_lt hb) (by rw [size_push']; exact Nat.lt_succ_of_lt hb)]
    exact Heap.get?_push_of_some _ (k1 _ _ e)
  have J := I.call' (s' := { s1 with heap := PyProof.Rows.sortedHeap (s1.heap.push (seqObj "list" its.toArray 0)) s1.heap.objs.size its out.toArray }) (ch := []) (H' := upd H s1.heap.objs.size (.lst ((L1.mergeSort (dataLe false fun b => pyT b.2)).map fun b => V.ref b.1))) o1 (Un.laid k2 hz hn)
    (I.hok.laid k2 hz ⟨hlen, out, e', each_refs so, he'⟩) (by show AllBare s1.gens; rw [g1]; exact I.bare) (fun _ z => nomatch z)
  refine wpAny_pure ⟨_, rfl, .ref s1.heap.objs.size, _, J, rfl, q _ _ hp1 R.nd ?_ hn⟩
  have hp2 := List.pairwise_mergeSort (le := dataLe false fun b : Addr × List Int => pyT b.2) (fun a b c h1 h2 => (PySem.W.sortLe_total _ false _).trans a b c h1 h2) (fun a b => by rw [Bool.or_eq_true]; exact (PySem.W.sortLe_total _ false _).total a b) L1
  exact hp2
def rSortS (K : PySem.W.Frag) (P : Program) (w : World) : List V → Hp → VK → Prop := fun xs H Q => rSortedSet w xs H Q ∨ rSortSetT K P w xs H Q
theorem cr_sortS {X : Cx} {k : Nat} (hr : Room k X.A) (hc : X.calm = true) : CallR X (.builtin "sorted") (rSortS X.K X.prog X.w) := (cr_sortedSet hc).or (cr_sortSetT hr hc)
/-- len(s) -/
def rLenS (K : PySem.W.Frag) (P : Program) (w : World) : List V → Hp → VK → Prop := fun xs H Q => (∃ (a : Addr) (S : Int → Bool) (n : Nat), xs = [V.ref a] ∧ H a = some (SetO w a S n) ∧ Q (.int n) H) ∨
  ∃ (a : Addr) (L : List (Addr × List Int)), xs = [V.ref a] ∧ H a = some (SetTO P w a L) ∧ (∀ p ∈ L, SqT K H p.1 (p.2.map V.int)) ∧ ((L.map (·.2)).Nodup → Q (.int L.length) H)
theorem cr_lenS {X : Cx} : CallR X (.builtin "len") (rLenS X.K X.prog X.w) := by
  intro pins s σ H vs us Q I r h
  rcases h with ⟨a, S, n, rfl, ha, q⟩ | ⟨a, L, rfl, ha, hk, q⟩
  · obtain ⟨o, es, ep, t, ho, hex, hd, _, _, _, hb, hf, hn, _⟩ := setO_get I ha
    rw [Vals.ref1 r]
    subst hn
    exact call_len_set ho hex hd hf (by unfold scanBound at hb; omega) ⟨.int es.size, H, (I.tok _).tok _, ⟨_, rfl⟩, q⟩
  · have R0 : SetT0 X.prog X.w s.heap a L := (I.hok a _ ha).1
    obtain ⟨es, ep, t, R⟩ := R0.full fun p hp => I.isT (hk p hp)
    obtain ⟨o, ho, hex, hd⟩ := R.ob
    have hsz := R.size
    have hfew := R.few
    rw [Vals.ref1 r]
    refine call_len_set ho hex hd R.fits (by omega) ⟨.int es.size, H, (I.tok _).tok _, ⟨_, rfl⟩, ?_⟩
    rw [hsz]; exact q R.nd
end MH
namespace ML
open PySem PySem.Spec PyProof.Rows L2
section
variable {u : Uv} {W : WX} {b : List Nat} {B G0 G H : Hp} {σ : L2.St} {ε : Env}
def distI (ns : List Int) : List Int := sortI (MH.ded ns)
def distT (ks : List (List Int)) : List (List Int) := (MH.ded ks).mergeSort (PySem.W.dataLe false MH.pyT)
def tupI (k : List Int) : D := .tup (k.map .int)
def rowsI : List D → Option (List (List Int))
  | [] => some []
  | .tup ds :: r => (intsD ds).bind fun k => (rowsI r).map (k :: ·)
  | _ => none
theorem distI_of {ns l : List Int} (pw : l.Pairwise (· < ·)) (h : ∀ k, k ∈ l ↔ k ∈ ns) : l = distI ns :=
  sortI_of (MH.ded_len (pw.imp fun h => by omega) h) (pw.imp fun h => by omega)
theorem eqv_T : ∀ {a b : List Int}, PyData.eqvAll (a.map .int) (b.map .int) = true → a = b
  | [], [], _ => rfl
  | [], _ :: _, h => by simp [PyData.eqvAll] at h
  | _ :: _, [], h => by simp [PyData.eqvAll] at h
  | x :: a, y :: b, h => by
    simp only [List.map_cons, PyData.eqvAll, Bool.and_eq_true] at h
    have h1 : x = y := by simpa [PyData.eqv] using h.1
    rw [h1, eqv_T h.2]
theorem leT_anti {a b : List Int} (h1 : PySem.W.dataLe false MH.pyT a b = true) (h2 : PySem.W.dataLe false MH.pyT b a = true) : a = b := by
  rw [PySem.W.dataLe_eq] at h1 h2
  simp only [cond_false, Bool.not_eq_true'] at h1 h2
  have e : PySem.W.keyToks (MH.pyT a) = PySem.W.keyToks (MH.pyT b) := PyProof.Rows.lex_total _ _ h2 h1
  cases q : PyData.eqv (MH.pyT a) (MH.pyT b) with
  | true => exact eqv_T (by simpa [MH.pyT, PyData.eqv] using q)
  | false =>
    have h3 := (PySem.W.toks_eqv _ _ (MH.alike_T a b)).2 q [] [.inl 0]
    rw [e, PySem.W.lex_pre, PyProof.Rows.lex_irrefl] at h3
    exact absurd h3 (by decide +kernel)
theorem distT_of {ks l : List (List Int)} (nd : l.Nodup) (pw : l.Pairwise (fun a b => PySem.W.dataLe false MH.pyT a b = true)) (h : ∀ k, k ∈ l ↔ k ∈ ks) : l = distT ks := by
  refine List.Perm.eq_of_pairwise (le := fun a b => PySem.W.dataLe false MH.pyT a b = true) (fun a b _ _ h1 h2 => leT_anti h1 h2) pw ?_ ((MH.ded_len nd h).trans (List.mergeSort_perm _ _).symm)
  exact List.pairwise_mergeSort (le := PySem.W.dataLe false MH.pyT) (fun a b c h1 h2 => (PySem.W.sortLe_total _ false _).trans a b c h1 h2) (fun a b => by rw [Bool.or_eq_true]; exact (PySem.W.sortLe_total _ false _).total a b) _
theorem rows_rep : ∀ {ds : List D} {ks : List (List Int)} {vs : List V}, rowsI ds = some ks → RepL u G ds vs → ∃ L : List (Addr × List Int), vs = L.map (fun p => V.ref p.1) ∧ L.map (·.2) = ks ∧ ∀ p ∈ L, G p.1 = some (.tup (p.2.map V.int))
  | [], ks, vs, h, r => by
    simp only [RepL] at r
    subst r
    cases h
    exact ⟨[], rfl, rfl, by simp⟩
  | d :: ds, ks, vs, h, r => by
    simp only [RepL] at r
    obtain ⟨v, w, rfl, r1, r2⟩ := r
    cases d with
    | tup es =>
      simp only [rowsI] at h
      obtain ⟨k, e1, h⟩ := Option.bind_eq_some_iff.1 h
      obtain ⟨ks', e2, rfl⟩ := Option.map_eq_some_iff.1 h
      obtain ⟨a, us, rfl, a1, a2⟩ := rep_tup.mp r1
      have := intsD_rep a2 e1
      subst this
      obtain ⟨L, l1, l2, l3⟩ := rows_rep e2 r2
      refine ⟨(a, k) :: L, by rw [l1]; rfl, by rw [← l2]; rfl, fun p hp => ?_⟩
      rcases List.mem_cons.1 hp with rfl | hp
      · exact a1
      · exact l3 p hp
    | _ => cases h
theorem rep_tups : ∀ (L : List (Addr × List Int)), (∀ p ∈ L, G p.1 = some (.tup (p.2.map V.int))) → RepL u G ((L.map (·.2)).map tupI) (L.map fun p => V.ref p.1)
  | [], _ => by simp [RepL]
  | p :: L, h => ⟨_, _, rfl, rep_tup.mpr ⟨p.1, _, rfl, h p (by simp), repL_ints⟩, rep_tups L fun q hq => h q (by simp [hq])⟩
def sortSetD : D → Option D
  | .tup ds => (intsD ds).bind fun ns => if ns.length < 4000 ∧ (MH.ded ns).length < 64 then some (.lst ((distI ns).map .int)) else none
  | .lst ds => (rowsI ds).bind fun ks => if ks.length < 64 then some (.lst ((distT ks).map tupI)) else none
  | _ => none
def lenSetD : D → Option D
  | .tup ds => (intsD ds).bind fun ns => if ns.length < 4000 then some (.int (MH.ded ns).length) else none
  | .lst ds => (rowsI ds).bind fun ks => if ks.length < 64 then some (.int (MH.ded ks).length) else none
  | _ => none
theorem rz_sortSet {P : Program} {w : World} {ta : TE} {f : Env → Out D} (h : RzE u W ta f) : RzE u W (tCB (MH.rSortS u.K P w) (tCons (tCB (MH.rSetS u.K P w) (tCons ta tNil)) tNil)) (op1F f sortSetD) := fun B G0 G H σ ε Q R q =>
  h _ _ _ _ _ _ _ R (q.bnd.mono fun d ε1 G1 H1 e1 R1 h1 v rv => by
    obtain ⟨z, hz, h3⟩ := h1.opt
    show MH.rSetS u.K P w [v] H1 (fun x H2 => MH.rSortS u.K P w [x] H2 Q)
    cases d with
    | tup ds =>
      obtain ⟨ns, ei, hz⟩ := Option.bind_eq_some_iff.1 hz
      split at hz
      · rename_i hc
        cases hz
        obtain ⟨a, vs, rfl, a1, a2⟩ := rep_tup.mp rv
        have := intsD_rep a2 ei
        subst this
        refine .inl ⟨a, ns, rfl, SqT.of (R1.gh _ _ a1), by unfold scanBound; omega, fun p hp => .inl ⟨p, _, _, rfl, upd_same, hc.2, fun ns' p2 pw hm hl hp2 => ?_⟩⟩
        have e : ns' = distI ns := distI_of pw fun k => by rw [hm k]; simp
        subst e
        have R2 := R1.lay hp (SetO w p (fun j => decide (j ∈ ns)) (MH.ded ns).length)
        exact h3.ret' (R2.exn hp2 _) (R2.new hp2 _) _ (rep_lst.mpr ⟨p2, _, rfl, upd_same, repL_ints⟩)
      · cases hz
    | lst ds =>
      obtain ⟨ks, ei, hz⟩ := Option.bind_eq_some_iff.1 hz
      split at hz
      · rename_i hc
        cases hz
        obtain ⟨a, vs, rfl, a1, a2⟩ := rep_lst.mp rv
        obtain ⟨L0, rfl, l2, l3⟩ := rows_rep ei a2
        have hl : L0.length = ks.length := by rw [← l2, List.length_map]
        refine .inr ⟨a, L0, rfl, SqL.of (R1.gh _ _ a1), fun p hp => SqT.of (R1.gh _ _ (l3 p hp)), by omega, fun p L hp s1 s2 => .inr ⟨p, L, rfl, upd_same, fun x hx => SqT.of (Ex.upd hp _ _ (R1.gh _ _ (l3 x (s1 x hx)))), fun L' p2 pm nd pw hp2 => ?_⟩⟩
        have e : L'.map (·.2) = distT ks := by
          refine distT_of ((pm.map (·.2)).nodup_iff.2 nd) (by rw [List.pairwise_map]; exact pw) fun k => ?_
          rw [(pm.map (·.2)).mem_iff, ← l2]
          constructor
          · intro hk
            obtain ⟨x, hx, rfl⟩ := List.mem_map.1 hk
            exact List.mem_map_of_mem (s1 x hx)
          · intro hk
            obtain ⟨x, hx, rfl⟩ := List.mem_map.1 hk
            exact s2 x hx
        rw [← e] at h3
        have R2 := R1.lay hp (SetTO P w p L)
        exact h3.ret' (R2.exn hp2 _) (R2.new hp2 _) _ (rep_lst.mpr ⟨p2, _, rfl, upd_same, RepL.mono (R2.exn hp2 _) _ (rep_tups L' fun x hx => l3 x (s1 x (pm.mem_iff.1 hx)))⟩)
      · cases hz
    | _ => cases hz)
theorem rz_lenSet {P : Program} {w : World} {ta : TE} {f : Env → Out D} (h : RzE u W ta f) : RzE u W (tCB (MH.rLenS u.K P w) (tCons (tCB (MH.rSetS u.K P w) (tCons ta tNil)) tNil)) (op1F f lenSetD) := fun B G0 G H σ ε Q R q =>
  h _ _ _ _ _ _ _ R (q.bnd.mono fun d ε1 G1 H1 e1 R1 h1 v rv => by
    obtain ⟨z, hz, h3⟩ := h1.opt
    show MH.rSetS u.K P w [v] H1 (fun x H2 => MH.rLenS u.K P w [x] H2 Q)
    cases d with
    | tup ds =>
      obtain ⟨ns, ei, hz⟩ := Option.bind_eq_some_iff.1 hz
      split at hz
      · cases hz
        obtain ⟨a, vs, rfl, a1, a2⟩ := rep_tup.mp rv
        have := intsD_rep a2 ei
        subst this
        refine .inl ⟨a, ns, rfl, SqT.of (R1.gh _ _ a1), by unfold scanBound; omega, fun p hp => .inl ⟨p, _, _, rfl, upd_same, ?_⟩⟩
        exact h3.ret' (Ex.refl _) (R1.lay hp _) _ (rep_int.mpr rfl)
      · cases hz
    | lst ds =>
      obtain ⟨ks, ei, hz⟩ := Option.bind_eq_some_iff.1 hz
      split at hz
      · rename_i hc
        cases hz
        obtain ⟨a, vs, rfl, a1, a2⟩ := rep_lst.mp rv
        obtain ⟨L0, rfl, l2, l3⟩ := rows_rep ei a2
        have hl : L0.length = ks.length := by rw [← l2, List.length_map]
        refine .inr ⟨a, L0, rfl, SqL.of (R1.gh _ _ a1), fun p hp => SqT.of (R1.gh _ _ (l3 p hp)), by omega, fun p L hp s1 s2 => .inr ⟨p, L, rfl, upd_same, fun x hx => SqT.of (Ex.upd hp _ _ (R1.gh _ _ (l3 x (s1 x hx)))), fun nd => ?_⟩⟩
        have e : (MH.ded ks).length = L.length := by
          rw [← (MH.ded_len (xs := ks) nd fun k => ?_).length_eq, List.length_map]
          rw [← l2]
          constructor
          · intro hk
            obtain ⟨x, hx, rfl⟩ := List.mem_map.1 hk
            exact List.mem_map_of_mem (s1 x hx)
          · intro hk
            obtain ⟨x, hx, rfl⟩ := List.mem_map.1 hk
            exact s2 x hx
        exact h3.ret' (Ex.refl _) (R1.lay hp _) _ (rep_int.mpr (by rw [e]))
      · cases hz
    | _ => cases hz)
end
end ML
end
section
set_option Elab.async false
set_option linter.all false
set_option maxRecDepth 100000
set_option maxHeartbeats 2000000
set_option autoImplicit false
namespace MH
open PySem PySem.Spec PyProof.Rows L2
/-- *range(..) among arguments -/
def tStarRg (te : L2.St → Hp → (Int → Int → Hp → Prop) → Prop) (t : TA) : TA := fun σ H Q => te σ H fun a b H1 => RgOk a b ∧ t σ H1 fun ys H2 => Q (rgV a b ++ ys) H2
theorem pa_starRg {X : Cx} {e : Expr} {es : List Expr} {p : Pos} {te : L2.St → Hp → (Int → Int → Hp → Prop) → Prop} {t : TA} (hc : X.calm = true) (he : PRg X e te) (hr : PA X es t) (hs : starEach (.Starred e p :: es) X.env = (true, eval e X.env) :: starEach es X.env := by rfl) :
    PA X (.Starred e p :: es) (tStarRg te t) := by
  refine ⟨fun pos pins s σ H Q I h => ?_⟩
  refine PySem.W.items_star (thn (he pins s σ H _ I h) fun v s1 ⟨r, a, b, t1, u, v1, H1, ex, hr1, I1, ok, q⟩ => ?_) hs
  subst ex
  obtain ⟨b1, b2, b3, b4, b5⟩ := ok
  have hT : s1.TypeIs (.ref r) "range" := ⟨_, hr1, rfl⟩
  unfold PySem.W.StarOf notIterableAtAll
  refine wpAny_bind (wpAny_specialOf hT PySem.F.slot_range_iter.lookup (wpAny_pure ⟨rfl, ?_⟩))
  refine collect_range (n := (b - a).toNat) (I1.ok.hd hc) hr1 (small_one b1 b2 b3 b4) (rangeSize_nat a b) b5 fun h' tk acc hk hi => ?_
  have I2 : Inv X pins σ H1 { s1 with heap := h', toks := tk } := I1.kept hk
  exact thn (hr.run pos pins _ σ H1 _ I2 q) fun ws s3 ⟨vs, H3, I3, r3, q3⟩ => ⟨rgV a b ++ vs, H3, I3, (vals_rg hi).append r3, q3⟩
/-- l.remove(x), x there, of data -/
def rRemD (K : PySem.W.Frag) : V → List V → Hp → VK → Prop := fun x xs H Q => ∃ (l : Addr) (vs : List V) (ps : List PyData) (y : V) (d : PyData) (j : Nat), x = .ref l ∧ xs = [y] ∧ H l = some (.lst vs) ∧ DpAll K H vs ps ∧ Dp K H y d ∧
  PyData.plainAll ps = true ∧ d.plain = true ∧ d.depth ≤ 64 ∧ SeqAt.dataPlace ps d = some j ∧ Q .non (upd H l (.lst (vs.eraseIdx j)))
theorem mt_removeD {X : Cx} {k : Nat} (hr : Room k X.A) : MtR X "list.remove" (rRemD X.K) := by
  intro pins s σ H x xs v us Q I rx rxs h
  obtain ⟨l, vs, ps, y, d, j, rfl, rfl, hH, hv, hy, h1, h2, h3, hp, q⟩ := h
  cases rx
  obtain ⟨u, rfl, ru⟩ := rxs.one
  obtain ⟨z, its, n, r, hl, e⟩ := I.lstM hH
  obtain ⟨as, ra⟩ := Dp.readsAll I ps vs its hv r
  obtain ⟨bs, rb⟩ := Dp.reads I d y u hy ru
  have hu := hr.un
  refine SeqAt.remove_list_data (vs := its.toArray) ⟨_, e, rfl, n, rfl⟩ (by simpa using ra) rb h1 h2 (by have : min (PyData.depthAll ps) d.depth ≤ d.depth := Nat.min_le_right _ _; omega) hp (by rw [List.size_toArray]; omega) ?_
  refine ⟨.non, _, I.lset (its' := its.eraseIdx j) (t' := s.toks) hH e (by simp) (r.eraseIdx j) ?_, rfl, q⟩
  have := List.length_eraseIdx_le vs j
  omega
end MH
namespace ML
open PySem PySem.Spec PyProof.Rows L2
section
variable {u : Uv} {W : WX} {b : List Nat} {B G0 G H : Hp} {σ : L2.St} {ε : Env}
def starRgF (f : Env → Out (Int × Int)) (fr : Env → Out (List D)) : Env → Out (List D) := fun ε => (f ε).bnd fun p ε1 => if okRg p = true then (fr ε1).bnd fun xs ε2 => .ok (rangeD p.1 (p.2 - p.1).toNat ++ xs) ε2 else .bad
theorem rz_starRg {te : L2.St → Hp → (Int → Int → Hp → Prop) → Prop} {t : TA} {f : Env → Out (Int × Int)} {fr : Env → Out (List D)} (h : RzRg u W te f) (hr : RzA u W t fr) : RzA u W (MH.tStarRg te t) (starRgF f fr) := fun B G0 G H σ ε Q R q =>
  h _ _ _ _ _ _ _ R (q.bnd.mono fun p ε1 G1 H1 e1 R1 h1 => by
    by_cases hp : okRg p = true
    · simp only [if_pos hp] at h1
      exact ⟨rgOk_of hp, hr _ _ _ _ _ _ _ R1 (h1.bnd.mono fun ys ε2 G2 H2 e2 R2 h2 ws rws => h2.ret R2 _ ((rep_rg _ _).append rws))⟩
    · simp only [if_neg hp] at h1; exact h1.elim)
theorem RepL.eraseIdx {ds : List D} {vs : List V} (r : RepL u G ds vs) (j : Nat) : RepL u G (ds.eraseIdx j) (vs.eraseIdx j) := by
  rw [List.eraseIdx_eq_take_drop_succ, List.eraseIdx_eq_take_drop_succ]
  exact (r.take j).append (r.drop (j + 1))
/-- xs.remove(e) -/
def remD (ds : List D) (d : D) : Option (List D) := if okPy (.lst ds) = true ∧ okPy d = true then (SeqAt.dataPlace (toPyL ds) (toPy d)).map fun j => ds.eraseIdx j else none
def remF (i : Nat) (f : Env → Out D) : Env → SO := fun ε => match ownL i ε with
  | none => .bad
  | some _ => (f ε).toS fun d ε1 => match (ownL i ε1).bind fun ds => remD ds d with
    | some ds => .nx (ε1.set i (.ow (.lst ds)))
    | none => .bad
theorem rs_rem {i : Nat} {te : TE} {f : Env → Out D} (h : RzE u W te f) : RzS u W b (tDrop (tBM u.K "list" (MH.rRemD u.K) (tVar i) (tCons te tNil))) (remF i f) := fun B G0 G H σ ε N R q => by
  unfold remF at q
  cases e0 : ownL i ε with
  | none => rw [e0] at q; exact q.elim
  | some d0 =>
    rw [e0] at q
    simp only at q
    obtain ⟨l, vs0, hv, hg, hb, h0, _⟩ := R.ownl e0
    refine ⟨_, hv, .inl ⟨rfl, vs0, SqL.of h0⟩, h _ _ _ _ _ _ _ R (q.bnd.mono fun d ε1 G1 H1 e1 R1 h1 v rv => ?_)⟩
    cases eo : ownL i ε1 with
    | none => simp only [eo, Option.bind_none] at h1; exact h1.elim
    | some ds =>
      simp only [eo, Option.bind_some] at h1
      obtain ⟨l', vs, a1, a2, a3, a4, a5⟩ := R1.ownl eo
      rw [hv] at a1
      cases a1
      cases er : remD ds d with
      | none => rw [er] at h1; exact h1.elim
      | some es =>
        rw [er] at h1
        simp only at h1
        unfold remD at er
        split at er
        · rename_i hc
          obtain ⟨j, hj, rfl⟩ := Option.map_eq_some_iff.1 er
          have c1 : PyData.canLayAll0 (toPyL ds) = true := SeqAt.canLay_of_shaped hc.1
          have c2 : PyData.canLay0 (toPy d) = true := SeqAt.canLay_of_shaped hc.2
          have c3 : (toPy d).depth ≤ 64 := SeqAt.depth_of_shaped hc.2
          exact ⟨l, vs, toPyL ds, v, toPy d, j, rfl, rfl, a4, rep_dpL ds c1 a5 R1.gh, rep_dp d c2 rv R1.gh, PyData.plainAll_of_canLay0 _ c1, PyData.plain_of_canLay0 _ c2, c3, hj, h1.next (R1.putl eo hv a2 (a5.eraseIdx j)) .refl⟩
        · cases er
/-- list(e), one's own -/
def ownL1 : Option D → Env → Out Sl
  | some (.lst xs), ε => .ok (.ow (.lst xs)) ε
  | _, _ => .bad
def listM (fa : Env → Out (List D)) : Env → Out Sl := fun ε => (fa ε).bnd fun ds ε1 => ownL1 (listD ds) ε1
theorem rzm_list {ta : TA} {fa : Env → Out (List D)} (ha : RzA u W ta fa) : RzM u W (tCB (MH.rList u.K) ta) (listM fa) := fun B G0 G H σ ε Q R q =>
  ha _ _ _ _ _ _ _ R (q.bnd.mono fun ds ε1 G1 H1 e1 R1 h1 vs rvs => by
    show MH.rList u.K vs H1 Q
    cases ds with
    | nil => exact h1.elim
    | cons d r =>
      cases r with
      | cons _ _ => exact h1.elim
      | nil =>
        simp only [RepL] at rvs
        obtain ⟨v, w, rfl, rv, rfl⟩ := rvs
        cases d with
        | lst xs =>
          obtain ⟨a, us, rfl, a1, a2⟩ := rep_lst.mp rv
          exact ⟨a, us, rfl, .inl (SqL.of (R1.gh _ _ a1)), fun l hl => h1.ret' (Ex.refl _) (R1.lay hl _) _ ⟨l, rfl, (R1.free hl).1, (R1.free hl).2.1, ⟨_, upd_same, a2⟩, apart_new R1 hl⟩⟩
        | tup xs =>
          obtain ⟨a, us, rfl, a1, a2⟩ := rep_tup.mp rv
          exact ⟨a, us, rfl, .inr (ex_t R1.gh a1), fun l hl => h1.ret' (Ex.refl _) (R1.lay hl _) _ ⟨l, rfl, (R1.free hl).1, (R1.free hl).2.1, ⟨_, upd_same, a2⟩, apart_new R1 hl⟩⟩
        | _ => exact h1.elim)
end
end ML
end
section
set_option Elab.async false
set_option linter.all false
set_option maxRecDepth 100000
set_option maxHeartbeats 2000000
set_option autoImplicit false
namespace ML
open PySem PySem.Spec PyProof.Rows L2
section
variable {u : Uv} {W : WX} {b : List Nat} {B G0 G G' H H' : Hp} {σ : L2.St} {ε : Env}

/-! ### for x in one's own list, which stays one's own -/
def SO.back (i : Nat) (d : D) : SO → SO
  | .nx ε => .nx (ε.set i (.ow d))
  | .rt r ε => .rt r (ε.set i (.ow d))
  | .ex x ε => .ex x ε
  | _ => .bad
def forO (i : Nat) (gf : D → Env → Option Env) (F : Env → SO) : Env → SO := fun ε => match ownL i ε with
  | some ds => SO.back i (.lst ds) (forF gf F ds (ε.set i .no))
  | none => .bad
theorem Kp.tail {i : Nat} {σ σ' : L2.St} (k : Kp (i :: b) σ σ') : Kp b σ σ' := fun j e => k j (List.mem_cons_of_mem _ e)
theorem RepE.setN' (R : RepE u B G0 G H σ ε) (i : Nat) {l : Addr} (h1 : σ[i]? = some (some (.ref l))) : RepE u B G0 G H σ (ε.set i .no) := by
  have q := R.setN i (some (.ref l))
  rwa [set_same h1] at q
theorem RepE.restore {i : Nat} {l : Addr} {vs : List V} {ds : List D} (R : RepE u (upd B l (.lst vs)) G0 G H σ ε) (hb : B l = none) (h0 : G0 l = none) (hs : σ[i]? = some (some (.ref l))) (r : RepL u G ds vs) : RepE u B G0 G H σ (ε.set i (.ow (.lst ds))) := by
  obtain ⟨a1, a2, a3, a4⟩ := R.back hb h0 (fun _ z => by cases z)
  have q := a4.setO i (d := .lst ds) a1 hb ⟨vs, a2, r⟩ a3
  rwa [set_same hs] at q
theorem rs_forO {i : Nat} {js : List Nat} {g : TG} {tb : TS} {gf : D → Env → Option Env} {F : Env → SO} (hg : RzG u js g gf) (hb : RzS u W (i :: b) tb F) (hk : ∀ k, k ∈ i :: b → k ∉ js := by decide) :
    RzS u W b (tFor (MH.iAny u.K (tVar i)) g tb) (forO i gf F) := fun B G0 G H σ ε N R q => by
  unfold forO at q
  cases e0 : ownL i ε with
  | none => rw [e0] at q; exact q.elim
  | some ds =>
    rw [e0] at q
    simp only at q
    obtain ⟨l, vs, hv, hgl, hbl, h0, r⟩ := R.ownl e0
    have hi := ownL_some e0
    have il : i < ε.length := (List.getElem?_eq_some_iff.mp hi).1
    have ap : Apart σ (ε.set i .no) l := fun j d' hj hs => by
      by_cases hij : j = i
      · subst hij; rw [List.getElem?_set_self il] at hj; cases hj
      · rw [List.getElem?_set_ne (Ne.symm hij)] at hj
        exact R.dj i j l _ d' (Ne.symm hij) hi hj hv hs
    have R1 := (R.setN' i hv).aside hgl h0 ap
    have g0 : G0 l = none := R.g0.free hgl
    have wl : Walk (Itl u.K l) vs.length (fun H => SqL u.K H l vs) (YAt vs) := walk_list
    refine ⟨_, hv, .inl ⟨l, rfl, ⟨vs, SqL.of h0⟩, ?_⟩⟩
    refine ⟨fun n m σ2 H => m = ds.length - n ∧ n ≤ ds.length ∧ ∃ ε G', Ex G G' ∧ RepE u (upd B l (.lst vs)) G0 G' H σ2 ε ∧ Kp (i :: b) σ σ2 ∧ PstS u W b σ B G0 G' (SO.back i (.lst ds) (forF gf F (ds.drop n) ε)) N, ⟨ds.length, by simp, Nat.zero_le _, ε.set i .no, G, Ex.refl _, R1, .refl, q⟩, ?_⟩
    rintro n m σ2 H2 ⟨rfl, hn, ε2, G2, e2, R2, k2, h2⟩
    have fin : ∀ {σ5 : L2.St} {ε5 : Env} {G5 H5 : Hp}, Ex G G5 → RepE u (upd B l (.lst vs)) G0 G5 H5 σ5 ε5 → Kp (i :: b) σ σ5 → RepE u B G0 G5 H5 σ5 (ε5.set i (.ow (.lst ds))) := fun {σ5 ε5 G5 H5} e5 R5 k5 => by
      have hs : σ5[i]? = some (some (.ref l)) := by rw [k5 i (by simp)]; exact hv
      exact R5.restore hbl g0 hs (RepL.mono e5 _ r)
    have sq : SqL u.K H2 l vs := SqL.of (R2.bh l _ upd_same)
    by_cases hlt : n < ds.length
    · refine .inr ⟨wl.goes n H2 (by rw [← r.length]; exact hlt) sq, fun σ' H' => ∃ ε' G', Ex G G' ∧ RepE u (upd B l (.lst vs)) G0 G' H' σ' ε' ∧ Kp (i :: b) σ σ' ∧ PstS u W b σ B G0 G' (SO.back i (.lst ds) (forF gf F (ds.drop (n + 1)) ε')) N, fun σ' H' ⟨ε', G', a, b, k, c⟩ => ⟨ds.length - (n + 1), by omega, rfl, hlt, ε', G', a, b, k, c⟩, fun x H3 hy => ?_⟩
      obtain ⟨e3, hx⟩ := wl.yields n H2 x H3 (by rw [← r.length]; exact hlt) sq hy
      subst e3
      obtain ⟨v, hvv, rv⟩ := r.get (show ds[n]? = some ds[n] by simp [hlt])
      rw [hx] at hvv
      cases hvv
      rw [List.drop_eq_getElem_cons hlt] at h2
      unfold forF at h2
      refine hg _ _ _ _ _ _ _ _ _ R2 (rv.mono e2) ?_
      cases eg : gf ds[n] ε2 with
      | none => rw [eg] at h2; exact h2.elim
      | some ε3 =>
        rw [eg] at h2
        refine fun σ4 R4 o4 => hb _ _ _ _ _ _ _ R4 ?_
        have k4 : Kp (i :: b) σ σ4 := k2.trans (o4.kp hk)
        simp only at h2
        cases ef : F ε3 with
        | nx ε5 => rw [ef] at h2; exact fun σ5 G5 H5 e5 R5 k5 => ⟨ε5, G5, e2.trans e5, R5, k4.trans k5, PstS.up (G := G2) h2 e5⟩
        | ct ε5 => rw [ef] at h2; exact fun σ5 G5 H5 e5 R5 k5 => ⟨ε5, G5, e2.trans e5, R5, k4.trans k5, PstS.up (G := G2) h2 e5⟩
        | bk ε5 => rw [ef] at h2; exact fun σ5 G5 H5 e5 R5 k5 => h2 σ5 G5 H5 e5 (fin (e2.trans e5) R5 (k4.trans k5)) (k4.trans k5).tail
        | rt d ε5 => rw [ef] at h2; exact fun σ5 v G5 H5 e5 R5 k5 rv => h2 σ5 v G5 H5 e5 (fin (e2.trans e5) R5 (k4.trans k5)) (k4.trans k5).tail rv
        | ex x ε5 => rw [ef] at h2; exact fun c dd σ5 G5 H5 e5 R5 rx => h2 c dd σ5 G5 H5 e5 (R5.less (Ex.upd hbl)) rx
        | bad => rw [ef] at h2; exact h2
    · have e : n = ds.length := by omega
      subst e
      rw [List.drop_length] at h2
      exact .inl ⟨by rw [r.length]; exact wl.stops H2 sq, h2 σ2 G2 H2 (Ex.refl _) (fin e2 R2 k2) k2.tail⟩
end
end ML
end
section
set_option Elab.async false
set_option linter.all false
set_option maxRecDepth 100000
set_option maxHeartbeats 2000000
set_option autoImplicit false
namespace MH
open PySem PySem.Spec PyProof.Rows L2
/-- list(x): a list, a tuple, a text -/
def rListX (K : PySem.W.Frag) : List V → Hp → VK → Prop := fun xs H Q => (∃ p ys, xs = [.ref p] ∧ (SqL K H p ys ∨ SqT K H p ys) ∧ ∀ l, H l = none → Q (.ref l) (upd H l (.lst ys))) ∨
  ∃ z : Str, xs = [.str z] ∧ z.cps.size ≤ sizeLine ∧ ∀ l, H l = none → Q (.ref l) (upd H l (.lst (signs z)))
theorem cr_listX {X : Cx} (hc : X.calm = true) : CallR X (.type "list") (rListX X.K) := by
  intro pins s σ H xs us Q I r h
  rcases h with h | ⟨z, rfl, hz, q⟩
  · exact call_list_of pins s σ H xs us Q I r h
  · obtain ⟨u, rfl, rx⟩ := vals1 r
    obtain ⟨t, rfl⟩ := rx
    refine call_list_str (I.ok.hd hc) z t (fun h' tk acc c' hk e hi => ?_) hz
    have rv : Vals (signs z) acc.toList := by
      refine vals_of (by simp [signs, hi.1]) fun i x v hx hv => ?_
      obtain ⟨c, tk, hc1, rfl⟩ := hi.2 i v (by simpa using hv)
      simp only [signs, List.getElem?_map, Array.getElem?_toList, hc1, Option.map_some, Option.some.injEq] at hx
      subst hx
      exact ⟨tk, rfl⟩
    exact ⟨.ref s.heap.objs.size, _, I.laid hk (Nat.le_refl _) (show ObjOk X.prog X.w _ h' _ (.lst (signs z)) from ⟨by simpa [signs] using hz, acc.toList, c', rv, by rw [Array.toArray_toList]; exact e⟩), rfl, q _ (I.hok.fresh (Nat.le_refl _))⟩
end MH
namespace ML
open PySem PySem.Spec PyProof.Rows L2
section
variable {u : Uv} {W : WX} {b : List Nat} {B G0 G G' H H' : Hp} {σ σ' : L2.St} {ε : Env}
/-! ### list(x), x a text too -/
def listXD : List D → Option D := oneD fun
  | .lst ds => some (.lst ds)
  | .tup ds => some (.lst ds)
  | .str z => if z.cps.size ≤ 100000 then some (.lst (signsD z)) else none
  | _ => none
theorem rc_listX : RzC u (MH.rListX u.K) listXD := rc_one fun x d z G H Q r hz eg k => by
  cases d with
  | lst ds =>
    cases hz
    obtain ⟨a, vs, rfl, a1, a2⟩ := rep_lst.mp r
    exact .inl ⟨a, vs, rfl, .inl (SqL.of (eg _ _ a1)), fun p hp => Kon.new k eg hp (rep_lst.mpr ⟨p, vs, rfl, upd_same, RepL.mono (Ex.upd (eg.free hp)) _ a2⟩)⟩
  | tup ds =>
    cases hz
    obtain ⟨a, vs, rfl, a1, a2⟩ := rep_tup.mp r
    exact .inl ⟨a, vs, rfl, .inr (ex_t eg a1), fun p hp => Kon.new k eg hp (rep_lst.mpr ⟨p, vs, rfl, upd_same, RepL.mono (Ex.upd (eg.free hp)) _ a2⟩)⟩
  | str y =>
    have e := rep_str.mp r
    subst e
    simp only at hz
    by_cases hy : y.cps.size ≤ 100000
    · rw [if_pos hy] at hz
      cases hz
      exact .inr ⟨y, rfl, sz_of hy, fun p hp => Kon.new k eg hp (rep_lst.mpr ⟨p, _, rfl, upd_same, repL_signs⟩)⟩
    · rw [if_neg hy] at hz; cases hz
  | _ => cases hz
/-! ### lines = [list(line) for line in ..], then for r, c in ..: lines[r][c] = x -/
def Nest (u : Uv) (G H : Hp) : List Addr → List (List D) → Prop
  | [], [] => True
  | m :: ms, r :: rs => (∃ vs, H m = some (.lst vs) ∧ RepL u G r vs) ∧ Nest u G H ms rs
  | _, _ => False
theorem Nest.mono (e : Ex G G') : ∀ {ms : List Addr} {rs : List (List D)}, (∀ m, m ∈ ms → ∀ o, H m = some o → H' m = some o) → Nest u G H ms rs → Nest u G' H' ms rs
  | [], [], _, h => h
  | m :: ms, r :: rs, k, ⟨⟨vs, h1, h2⟩, h3⟩ => ⟨⟨vs, k m (by simp) _ h1, RepL.mono e _ h2⟩, Nest.mono e (fun m' hm => k m' (by simp [hm])) h3⟩
theorem Nest.length : ∀ {ms : List Addr} {rs : List (List D)}, Nest u G H ms rs → ms.length = rs.length
  | [], [], _ => rfl
  | _ :: _, _ :: _, ⟨_, h⟩ => by simp [Nest.length h]
theorem Nest.snoc {m : Addr} {vs : List V} {r : List D} (h1 : H m = some (.lst vs)) (h2 : RepL u G r vs) : ∀ {ms : List Addr} {rs : List (List D)}, Nest u G H ms rs → Nest u G H (ms ++ [m]) (rs ++ [r])
  | [], [], _ => ⟨⟨vs, h1, h2⟩, trivial⟩
  | _ :: _, _ :: _, ⟨a, h⟩ => ⟨a, Nest.snoc h1 h2 h⟩
theorem Nest.get : ∀ {ms : List Addr} {rs : List (List D)} {k : Nat} {r : List D}, Nest u G H ms rs → rs[k]? = some r → ∃ m vs, ms[k]? = some m ∧ H m = some (.lst vs) ∧ RepL u G r vs
  | [], [], _, _, _, e => by simp at e
  | m :: ms, r :: rs, 0, _, ⟨⟨vs, h1, h2⟩, _⟩, e => by simp at e; subst e; exact ⟨m, vs, rfl, h1, h2⟩
  | m :: ms, r :: rs, k + 1, _, ⟨_, h⟩, e => by simpa using Nest.get h (by simpa using e)
theorem Nest.put {m : Addr} {vs : List V} {r : List D} (h2 : RepL u G r vs) : ∀ {ms : List Addr} {rs : List (List D)} {k : Nat}, ms.Nodup → Nest u G H ms rs → ms[k]? = some m → Nest u G (upd H m (.lst vs)) ms (rs.set k r)
  | [], [], _, _, _, e => by simp at e
  | n :: ms, _ :: rs, 0, nd, ⟨_, h⟩, e => by
    simp at e; subst e
    refine ⟨⟨vs, upd_same, h2⟩, Nest.mono (Ex.refl _) (fun m' hm o q => ?_) h⟩
    have hne : m' ≠ n := fun z => (List.nodup_cons.mp nd).1 (by rw [← z]; exact hm)
    rw [upd_ne hne]; exact q
  | n :: ms, _ :: rs, k + 1, nd, ⟨⟨ws, a1, a2⟩, h⟩, e => by
    have e' : ms[k]? = some m := by simpa using e
    have hm : m ∈ ms := List.mem_of_getElem? e'
    have hne : n ≠ m := fun z => (List.nodup_cons.mp nd).1 (by rw [z]; exact hm)
    exact ⟨⟨ws, by rw [upd_ne hne]; exact a1, a2⟩, Nest.put h2 (List.nodup_cons.mp nd).2 h e'⟩
theorem Nest.frz : ∀ {ms : List Addr} {rs : List (List D)} {G : Hp}, RepE u B G0 G H σ ε → Nest u G H ms rs → (∀ m, m ∈ ms → G m = none ∧ B m = none ∧ Apart σ ε m) → ms.Nodup →
    ∃ G', Ex G G' ∧ RepE u B G0 G' H σ ε ∧ RepL u G' (rs.map D.lst) (ms.map V.ref) ∧ ∀ a, a ∉ ms → G' a = G a
  | [], [], G, R, _, _, _ => ⟨G, Ex.refl _, R, by simp [RepL], fun _ _ => rfl⟩
  | m :: ms, r :: rs, G, R, ⟨⟨vs, h1, h2⟩, h3⟩, k, nd => by
    obtain ⟨k1, k2, k3⟩ := k m (by simp)
    have nm := (List.nodup_cons.mp nd).1
    have e1 := (know R.gh k1 h1).1
    obtain ⟨G', a1, a2, a3, a4⟩ := Nest.frz (R.frz k1 k2 h1 k3) (Nest.mono e1 (fun _ _ _ q => q) h3) (fun m' hm => by
      obtain ⟨q1, q2, q3⟩ := k m' (by simp [hm])
      have hne : m' ≠ m := fun z => nm (by rw [← z]; exact hm)
      exact ⟨by rw [upd_ne hne]; exact q1, q2, q3⟩) (List.nodup_cons.mp nd).2
    refine ⟨G', e1.trans a1, a2, ⟨.ref m, ms.map V.ref, rfl, rep_lst.mpr ⟨m, vs, rfl, by rw [a4 m nm]; exact upd_same, RepL.mono (e1.trans a1) _ h2⟩, a3⟩, fun a ha => ?_⟩
    have hne : a ≠ m := fun z => ha (by simp [z])
    rw [a4 a (fun z => ha (by simp [z])), upd_ne hne]
theorem RepE.touch {a : Addr} {o : HO} (R : RepE u B G0 G H σ ε) (hg : G a = none) (hb : B a = none) (ap : Apart σ ε a) : RepE u B G0 G (upd H a o) σ ε := by
  refine ⟨R.len, R.g0, R.gb, R.gh.mut hg, R.bh.mut hb, fun i s hs => ?_, R.dj⟩
  obtain ⟨v, a1, a2⟩ := R.sl i s hs
  refine ⟨v, a1, ?_⟩
  cases s with
  | no => trivial
  | fz d => exact a2
  | ow d =>
    obtain ⟨l, z1, z2, z3, z4⟩ := a2
    have hl : l ≠ a := fun q => by subst q; exact ap i d hs (by rw [a1, z1])
    exact ⟨l, z1, z2, z3, z4.mono (Ex.refl _) fun o z => by rw [upd_ne hl]; exact z⟩
structure NestO (u : Uv) (B G H : Hp) (σ : L2.St) (ε : Env) (D0 : Addr) (ms : List Addr) (rs : List (List D)) : Prop where
  nd : (D0 :: ms).Nodup
  gn : ∀ m, m ∈ D0 :: ms → G m = none
  bn : ∀ m, m ∈ D0 :: ms → B m = none
  ap : ∀ m, m ∈ D0 :: ms → Apart σ ε m
  hd : H D0 = some (.lst (ms.map V.ref))
  ne : Nest u G H ms rs
theorem NestO.has {D0 : Addr} {ms : List Addr} {rs : List (List D)} (n : NestO u B G H σ ε D0 ms rs) {m : Addr} (hm : m ∈ D0 :: ms) : ∃ vs, H m = some (.lst vs) := by
  rcases List.mem_cons.mp hm with e | e
  · subst e; exact ⟨_, n.hd⟩
  · obtain ⟨k, hk, e2⟩ := List.mem_iff_getElem.mp e
    have hk2 : k < rs.length := by rw [← n.ne.length]; exact hk
    obtain ⟨m', vs, q1, q2, _⟩ := n.ne.get (show rs[k]? = some rs[k] by simp [hk2])
    have : m' = m := by
      rw [show ms[k]? = some ms[k] by simp [hk]] at q1
      cases q1; exact e2
    subst this
    exact ⟨vs, q2⟩
theorem NestO.ext {D0 : Addr} {ms : List Addr} {rs : List (List D)} (n : NestO u B G H σ ε D0 ms rs) (e : Ext G H G' H') : NestO u B G' H' σ ε D0 ms rs :=
  ⟨n.nd, fun m hm => by
    obtain ⟨vs, h⟩ := n.has hm
    rw [e.nw.at_ h (fun _ z => by cases z)]; exact n.gn m hm, n.bn, n.ap, e.h _ _ n.hd, n.ne.mono e.g fun m _ o q => e.h _ _ q⟩
theorem NestO.slots {D0 : Addr} {ms : List Addr} {rs : List (List D)} {ε' : Env} (n : NestO u B G H σ ε D0 ms rs) (h : ∀ m, m ∈ D0 :: ms → Apart σ' ε' m) : NestO u B G H σ' ε' D0 ms rs := ⟨n.nd, n.gn, n.bn, h, n.hd, n.ne⟩
theorem apart_other {vs : List Nat} {m : Addr} (ap : Apart σ ε m) (h : ∀ i, i ∉ vs → σ'[i]? = σ[i]?) : Apart σ' (wipeE ε vs) m := fun i d hi => by
  by_cases hv : i ∈ vs
  · have := wipeE_in hv _ hi; cases this
  · rw [wipeE_get hv] at hi
    rw [h i hv]
    exact ap i d hi
theorem wipeE_idem (ε : Env) (vs : List Nat) : wipeE (wipeE ε vs) vs = wipeE ε vs := by
  apply List.ext_getElem?
  intro i
  by_cases hi : i ∈ vs
  · cases e : (wipeE ε vs)[i]? with
    | none =>
      rw [List.getElem?_eq_none_iff] at e ⊢
      rw [wipeE_length]; exact e
    | some s =>
      have hs := wipeE_in hi s e
      subst hs
      have hl : i < (wipeE (wipeE ε vs) vs).length := by rw [wipeE_length]; exact (List.getElem?_eq_some_iff.mp e).1
      have q : (wipeE (wipeE ε vs) vs)[i]? = some (wipeE (wipeE ε vs) vs)[i] := by simp [hl]
      rw [q, wipeE_in hi _ q]
  · exact wipeE_get hi
/-- things of one's own set aside together -/
def asides (H B : Hp) (L : List Addr) : Hp := fun a => if a ∈ L then H a else B a
theorem RepE.asideL {L : List Addr} (R : RepE u B G0 G H σ ε) (hg : ∀ m, m ∈ L → G m = none) (ap : ∀ m, m ∈ L → Apart σ ε m) : RepE u (asides H B L) G0 G H σ ε := by
  refine ⟨R.len, R.g0, fun a x q => ?_, R.gh, fun a x q => ?_, fun i s hs => ?_, R.dj⟩
  · by_cases ha : a ∈ L
    · exact .inl (by rw [hg a ha, R.g0.free (hg a ha)])
    · simp only [asides, if_neg ha] at q; exact R.gb a x q
  · by_cases ha : a ∈ L
    · simp only [asides, if_pos ha] at q; exact q
    · simp only [asides, if_neg ha] at q; exact R.bh a x q
  · obtain ⟨v, h1, h2⟩ := R.sl i s hs
    refine ⟨v, h1, ?_⟩
    cases s with
    | no => trivial
    | fz d => exact h2
    | ow d =>
      obtain ⟨m, a, b, c, w⟩ := h2
      have hm : m ∉ L := fun q => ap m q i d hs (by rw [h1, a])
      exact ⟨m, a, b, by simp only [asides, if_neg hm]; exact c, w⟩
theorem NestO.back {D0 : Addr} {ms : List Addr} {rs : List (List D)} {H0 G1 : Hp} {ε' : Env} (n : NestO u B G1 H0 σ ε' D0 ms rs) (e : Ex G1 G) (g0 : Ex G0 G1) (R : RepE u (asides H0 B (D0 :: ms)) G0 G H σ ε) : RepE u B G0 G H σ ε ∧ NestO u B G H σ ε D0 ms rs := by
  have key : ∀ m, m ∈ D0 :: ms → ∃ vs, asides H0 B (D0 :: ms) m = some (.lst vs) ∧ H0 m = some (.lst vs) := fun m hm => by
    obtain ⟨vs, h⟩ := n.has hm
    exact ⟨vs, by simp only [asides, if_pos hm]; exact h, h⟩
  have hH : ∀ m, m ∈ D0 :: ms → ∀ o, H0 m = some o → H m = some o := fun m hm o q => R.bh m o (by simp only [asides, if_pos hm]; exact q)
  refine ⟨R.less fun a o q => ?_, n.nd, fun m hm => ?_, n.bn, fun m hm i d hi q => ?_, hH D0 (by simp) _ n.hd, n.ne.mono e fun m hm o q => hH m (by simp [hm]) o q⟩
  · have : a ∉ D0 :: ms := fun h => by rw [n.bn a h] at q; cases q
    simp only [asides, if_neg this]; exact q
  · obtain ⟨vs, h1, _⟩ := key m hm
    rw [R.gb.at_ h1 (fun _ z => by cases z)]
    exact g0.free (n.gn m hm)
  · obtain ⟨v, h1, h2⟩ := R.sl i _ hi
    obtain ⟨l, rfl, _, c, _⟩ := h2
    rw [h1] at q
    cases q
    obtain ⟨vs, z, _⟩ := key m hm
    rw [z] at c; cases c
def rowsD : List D → Option (List (List D))
  | [] => some []
  | .str z :: r => if z.cps.size ≤ 100000 then (rowsD r).map fun x => signsD z :: x else none
  | _ => none
theorem rowsD_len : ∀ {ds : List D} {rs : List (List D)}, rowsD ds = some rs → rs.length = ds.length
  | [], _, h => by cases h; rfl
  | .str z :: r, rs, h => by
    simp only [rowsD] at h
    split at h
    · cases e : rowsD r with
      | none => rw [e] at h; cases h
      | some x => rw [e] at h; cases h; simp [rowsD_len e]
    · cases h
theorem rowsD_get : ∀ {ds : List D} {rs : List (List D)} {i : Nat} {d : D}, rowsD ds = some rs → ds[i]? = some d → ∃ z, d = .str z ∧ z.cps.size ≤ 100000 ∧ rs[i]? = some (signsD z)
  | [], _, _, _, _, e => by simp at e
  | .str z :: r, rs, i, d, h, e => by
    simp only [rowsD] at h
    split at h
    · rename_i hz
      cases e1 : rowsD r with
      | none => rw [e1] at h; cases h
      | some x =>
        rw [e1] at h
        cases h
        cases i with
        | zero => simp at e; subst e; exact ⟨z, rfl, hz, rfl⟩
        | succ i => simpa using rowsD_get e1 (by simpa using e)
    · cases h
def nputD (x : D) (rs : List (List D)) : D → Option (List (List D))
  | .tup [.int a, .int b] => (ixN rs.length a).bind fun k => (rs[k]?).bind fun r => (ixN r.length b).bind fun j => some (rs.set k (r.set j x))
  | _ => none
def nputsD (x : D) : List D → List (List D) → Option (List (List D))
  | [], rs => some rs
  | d :: ds, rs => (nputD x rs d).bind (nputsD x ds)
theorem nputD_some {x d : D} {rs rs' : List (List D)} (h : nputD x rs d = some rs') : ∃ a b k r j, d = .tup [.int a, .int b] ∧ ixN rs.length a = some k ∧ rs[k]? = some r ∧ ixN r.length b = some j ∧ rs' = rs.set k (r.set j x) := by
  unfold nputD at h
  split at h
  · rename_i a b
    cases e1 : ixN rs.length a with
    | none => rw [e1] at h; cases h
    | some k =>
      rw [e1] at h
      simp only [Option.bind_some] at h
      cases e2 : rs[k]? with
      | none => rw [e2] at h; cases h
      | some r =>
        rw [e2] at h
        simp only [Option.bind_some] at h
        cases e3 : ixN r.length b with
        | none => rw [e3] at h; cases h
        | some j => rw [e3] at h; cases h; exact ⟨a, b, k, r, j, rfl, e1, e2, e3, rfl⟩
  · cases h
def nestS (i j r c : Nat) (fi fl : Env → Out (List D)) (x : D) : Env → SO := fun ε => (fi ε).toS fun ds ε1 => if i < ε1.length ∧ j < ε1.length ∧ r < ε1.length ∧ c < ε1.length ∧ ds.length < 100000 then (match rowsD ds with
  | none => .bad
  | some rs => (fl (ε1.set i .no)).toS fun ls ε2 => match nputsD x ls rs with
    | none => .bad
    | some rs' => .nx ((wipeE ε2 [r, c]).set i (.ow (.lst (rs'.map D.lst))))) else .bad
theorem rs_nest {i j r c : Nat} {wi wl : TI} {fi fl : Env → Out (List D)} {x : D} {xv : V} (hi : RzI u W wi fi) (hl : RzI u W wl fl) (hx : ∀ G, Rep u G x xv) (hb : i ∉ b ∧ r ∉ b ∧ c ∉ b := by decide) (hn : i ≠ r ∧ i ≠ c ∧ r ≠ c := by decide) :
    RzS u W b (tSeq (tAsg (tLc wi (gName j) tYes (tCB (MH.rListX u.K) (tCons (tVar j) tNil)) [j]) (gName i)) (tFor wl (gTup u.K 2 (gCons (gName r) (gCons (gName c) gNil))) (tAsg (tC xv) (gSub (tOp (rIx u.K) (tVar i) (tVar r)) (tVar c) rSetL)))) (nestS i j r c fi fl x) := fun B G0 G H σ ε N R q => by
  refine hi _ _ _ _ _ _ _ R (q.bnd.mono fun ds ε1 G1 H1 e1 R1 h1 J wJ D0 hD => ?_)
  by_cases hc0 : i < ε1.length ∧ j < ε1.length ∧ r < ε1.length ∧ c < ε1.length ∧ ds.length < 100000
  case neg => simp only [if_neg hc0] at h1; exact h1.elim
  simp only [if_pos hc0] at h1
  obtain ⟨hi0, hj0, hr0, hc1, hds⟩ := hc0
  rw [← R1.len] at hi0 hj0 hr0 hc1
  cases er : rowsD ds with
  | none => simp only [er] at h1; exact h1.elim
  | some rows =>
    simp only [er] at h1
    have hlen := rowsD_len er
    refine ⟨fun n m H => m = ds.length - n ∧ n ≤ ds.length ∧ ∃ G ms, Ex G1 G ∧ RepE u B G0 G H σ ε1 ∧ NestO u B G H σ ε1 D0 ms (rows.take n), ⟨ds.length, by simp, Nat.zero_le _, G1, [], Ex.refl _, R1.lay hD _, ?_⟩, ?_⟩
    · obtain ⟨a1, a2, a3⟩ := R1.free hD
      exact ⟨by simp, fun m hm => by simp at hm; subst hm; exact a1, fun m hm => by simp at hm; subst hm; exact a2, fun m hm => by simp at hm; subst hm; exact apart_new R1 hD, by simpa using upd_same, by simp [Nest]⟩
    rintro n m H2 ⟨rfl, hn2, G2, ms, e2, R2, no⟩
    by_cases hlt : n < ds.length
    · refine .inr ⟨wJ.go n G2 H2 hlt e2 R2.gh, fun H' => ∃ G ms, Ex G1 G ∧ RepE u B G0 G H' σ ε1 ∧ NestO u B G H' σ ε1 D0 ms (rows.take (n + 1)), fun H' ⟨G, ms, a, b, c⟩ => ⟨ds.length - (n + 1), by omega, rfl, hlt, G, ms, a, b, c⟩, fun y H3 hy => ?_⟩
      obtain ⟨G3, ext, ry⟩ := wJ.yld n G2 H2 y H3 ds[n] (by simp [hlt]) e2 R2.gh hy
      obtain ⟨z, ez, hz, hr⟩ := rowsD_get er (show ds[n]? = some ds[n] by simp [hlt])
      rw [ez] at ry
      have ey := rep_str.mp ry
      subst ey
      have R3 := R2.ext ext
      have no3 := no.ext ext
      refine ⟨by simp [wipe, List.set_set], ?_⟩
      simp only [tYes, if_true]
      refine ⟨.str z, by simp [wipe, List.getElem?_set, hj0], .inr ⟨z, rfl, sz_of hz, fun l hl0 => ?_⟩⟩
      have hlD : l ≠ D0 := fun q => by subst q; rw [no3.hd] at hl0; cases hl0
      have hlm : ∀ m, m ∈ D0 :: ms → m ≠ l := fun m hm q => by
        obtain ⟨vs, h⟩ := no3.has hm
        rw [q, hl0] at h; cases h
      have lf := R3.free hl0
      have R4 := R3.lay hl0 (.lst (MH.signs z))
      have apl : Apart σ ε1 l := apart_new R3 hl0
      refine ⟨ms.map V.ref, by rw [upd_ne (Ne.symm hlD)]; exact no3.hd, ?_, ?_⟩
      · have := no3.ne.length
        rw [List.length_take] at this
        exact sz_lt (by rw [List.length_map]; omega)
      refine ⟨G3, ms ++ [l], e2.trans ext.g, R4.touch (no3.gn D0 (by simp)) (no3.bn D0 (by simp)) (no3.ap D0 (by simp)), ?_⟩
      have hmem : ∀ m, m ∈ D0 :: (ms ++ [l]) → m ∈ D0 :: ms ∨ m = l := fun m hm => by
        simp only [List.mem_cons, List.mem_append, List.mem_singleton, List.not_mem_nil, or_false] at hm ⊢
        rcases hm with h | h | h
        · exact .inl (.inl h)
        · exact .inl (.inr h)
        · exact .inr h
      refine ⟨?_, fun m hm => ?_, fun m hm => ?_, fun m hm => ?_, by rw [upd_same]; simp, ?_⟩
      · have nd := no3.nd
        rw [List.nodup_cons] at nd ⊢
        refine ⟨fun h => ?_, ?_⟩
        · rcases List.mem_append.mp h with h | h
          · exact nd.1 h
          · simp at h; exact hlD h.symm
        · rw [List.nodup_append]
          exact ⟨nd.2, by simp, fun a ha b hb2 => by simp at hb2; subst hb2; exact hlm a (by simp [ha])⟩
      · rcases hmem m hm with h | h
        · exact no3.gn m h
        · subst h; exact lf.1
      · rcases hmem m hm with h | h
        · exact no3.bn m h
        · subst h; exact lf.2.1
      · rcases hmem m hm with h | h
        · exact no3.ap m h
        · subst h; exact apl
      · have t : rows.take (n + 1) = rows.take n ++ [signsD z] := by
          rw [List.take_add_one, hr]; rfl
        rw [t]
        refine Nest.snoc (vs := MH.signs z) (by rw [upd_ne hlD]; exact upd_same) repL_signs (no3.ne.mono (Ex.refl _) fun m hm o q => ?_)
        have nD : m ≠ D0 := fun z => (List.nodup_cons.mp no3.nd).1 (by rw [← z]; exact hm)
        rw [upd_ne nD, upd_ne (hlm m (by simp [hm]))]
        exact q
    · have en : n = ds.length := by omega
      subst en
      rw [← hlen, List.take_length] at no
      refine .inl ⟨wJ.stop G2 H2 e2 R2.gh, ?_⟩
      show tFor wl _ _ N (σ.set i (some (.ref D0))) H2
      have R3 : RepE u B G0 G2 H2 (σ.set i (some (.ref D0))) (ε1.set i .no) := R2.setN i _
      have no3 : NestO u B G2 H2 (σ.set i (some (.ref D0))) (ε1.set i .no) D0 ms rows := no.slots fun m hm k d hk hs => by
        by_cases hki : k = i
        · subst hki
          rw [List.getElem?_set_self (by rw [← R1.len]; exact hi0)] at hk; cases hk
        · rw [List.getElem?_set_ne (Ne.symm hki)] at hk hs
          exact no.ap m hm k d hk hs
      refine hl _ _ _ _ _ _ _ (R3.asideL no3.gn no3.ap) (((h1.up e2).bnd.less fun a o q => ?_).mono fun ls ε2 G4 H4 e4 R4 h4 J2 wJ2 => ?_)
      · have : a ∉ D0 :: ms := fun h => by rw [no3.bn a h] at q; cases q
        simp only [asides, if_neg this]; exact q
      obtain ⟨R5, no5⟩ := no3.back e4 R3.g0 R4
      cases ep : nputsD x ls rows with
      | none => simp only [ep] at h4; exact h4.elim
      | some rows' =>
        simp only [ep] at h4
        have hi1 : (σ.set i (some (V.ref D0)))[i]? = some (some (.ref D0)) := List.getElem?_set_self hi0
        refine ⟨fun n m σ2 H => m = ls.length - n ∧ n ≤ ls.length ∧ σ2.length = σ.length ∧ (∀ k, k ∉ [r, c] → σ2[k]? = (σ.set i (some (V.ref D0)))[k]?) ∧ ∃ G rs, Ex G4 G ∧ RepE u B G0 G H σ2 (wipeE ε2 [r, c]) ∧ NestO u B G H σ2 (wipeE ε2 [r, c]) D0 ms rs ∧ nputsD x (ls.drop n) rs = some rows',
          ⟨ls.length, by simp, Nat.zero_le _, by simp, fun _ _ => rfl, G4, rows, Ex.refl _, R5.other [r, c] rfl fun _ _ => rfl, no5.slots fun m hm => apart_other (no5.ap m hm) fun _ _ => rfl, ep⟩, ?_⟩
        rintro n m σ2 H5 ⟨rfl, hn5, hs2, ho2, G5, rs, e5, R6, no6, hp⟩
        have hi2 : σ2[i]? = some (some (.ref D0)) := by rw [ho2 i (by simp [hn.1, hn.2.1])]; exact hi1
        by_cases hlt5 : n < ls.length
        · refine .inr ⟨wJ2.go n G5 H5 hlt5 e5 R6.gh, fun σ2 H => σ2.length = σ.length ∧ (∀ k, k ∉ [r, c] → σ2[k]? = (σ.set i (some (V.ref D0)))[k]?) ∧ ∃ G rs, Ex G4 G ∧ RepE u B G0 G H σ2 (wipeE ε2 [r, c]) ∧ NestO u B G H σ2 (wipeE ε2 [r, c]) D0 ms rs ∧ nputsD x (ls.drop (n + 1)) rs = some rows', fun σ' H' ⟨a, b, G, rs, c⟩ => ⟨ls.length - (n + 1), by omega, rfl, hlt5, a, b, G, rs, c⟩, fun y H7 hy => ?_⟩
          obtain ⟨G7, ext, ry⟩ := wJ2.yld n G5 H5 y H7 ls[n] (by simp [hlt5]) e5 R6.gh hy
          rw [List.drop_eq_getElem_cons hlt5] at hp
          simp only [nputsD] at hp
          cases e1p : nputD x rs ls[n] with
          | none => rw [e1p] at hp; cases hp
          | some rs1 =>
            rw [e1p] at hp
            simp only [Option.bind_some] at hp
            obtain ⟨ia, ib, k, row, jj, ed, f1, f2, f3, f4⟩ := nputD_some e1p
            rw [ed] at ry
            obtain ⟨ta, tvs, rfl, t1, t2⟩ := rep_tup.mp ry
            simp only [RepL, Rep] at t2
            obtain ⟨va, w1, rfl, rfl, vb, w2, rfl, rfl, rfl⟩ := t2
            have R7 := R6.ext ext
            have no7 := no6.ext ext
            refine ⟨ta, _, rfl, ex_t R7.gh t1, rfl, _, _, rfl, _, _, rfl, rfl, ?_⟩
            obtain ⟨m, vs, g1, g2, g3⟩ := no7.ne.get f2
            have hm : m ∈ D0 :: ms := by simp [List.mem_of_getElem? g1]
            have hs3 : ∀ k, k ∉ [r, c] → ((σ2.set r (some (V.int ia))).set c (some (V.int ib)))[k]? = σ2[k]? := fun k hk => by
              simp only [List.mem_cons, List.not_mem_nil, or_false, not_or] at hk
              rw [List.getElem?_set_ne (Ne.symm hk.2), List.getElem?_set_ne (Ne.symm hk.1)]
            have hr2 : ((σ2.set r (some (V.int ia))).set c (some (V.int ib)))[r]? = some (some (.int ia)) := by
              rw [List.getElem?_set_ne (Ne.symm hn.2.2), List.getElem?_set_self (by rw [hs2]; exact hr0)]
            have hc2 : ((σ2.set r (some (V.int ia))).set c (some (V.int ib)))[c]? = some (some (.int ib)) := List.getElem?_set_self (by rw [List.length_set, hs2]; exact hc1)
            have hi3 : ((σ2.set r (some (V.int ia))).set c (some (V.int ib)))[i]? = some (some (.ref D0)) := by rw [hs3 i (by simp [hn.1, hn.2.1])]; exact hi2
            have at1 : atI (ms.map V.ref) ia = some (.ref m) := by
              unfold atI
              rw [List.length_map, no7.ne.length, f1, Option.bind_some, List.getElem?_map, g1]; rfl
            refine ⟨_, hi3, _, hr2, .inl ⟨D0, ms.map V.ref, ia, .ref m, rfl, rfl, SqL.of no7.hd, at1, _, hc2, m, vs, ib, jj, rfl, rfl, g2, by rw [← g3.length]; exact f3, ?_⟩⟩
            refine ⟨by simp [hs2], fun k hk => (hs3 k hk).trans (ho2 k hk), G7, rs1, e5.trans ext.g, ?_, ?_, hp⟩
            · have z := (R7.touch (o := .lst (vs.set jj xv)) (no7.gn m hm) (no7.bn m hm) (no7.ap m hm)).other (σ' := (σ2.set r (some (V.int ia))).set c (some (V.int ib))) [r, c] (by simp) hs3
              rwa [wipeE_idem] at z
            · have nD : D0 ≠ m := fun z => (List.nodup_cons.mp no7.nd).1 (by rw [z]; exact List.mem_of_getElem? g1)
              refine ⟨no7.nd, no7.gn, no7.bn, fun m' hm' => ?_, by rw [upd_ne nD]; exact no7.hd, ?_⟩
              · have z := apart_other (vs := [r, c]) (no7.ap m' hm') hs3
                rwa [wipeE_idem] at z
              · rw [f4]
                exact Nest.put (g3.set jj (hx G7)) (List.nodup_cons.mp no7.nd).2 no7.ne g1
        · have en5 : n = ls.length := by omega
          subst en5
          rw [List.drop_length] at hp
          simp only [nputsD, Option.some.injEq] at hp
          subst hp
          obtain ⟨G8, e8, R8, rl8, keep⟩ := Nest.frz R6 no6.ne (fun m hm => ⟨no6.gn m (by simp [hm]), no6.bn m (by simp [hm]), no6.ap m (by simp [hm])⟩) (List.nodup_cons.mp no6.nd).2
          refine .inl ⟨wJ2.stop G5 H5 e5 R6.gh, ?_⟩
          have hD8 : G8 D0 = none := by rw [keep D0 (List.nodup_cons.mp no6.nd).1]; exact no6.gn D0 (by simp)
          have z := R8.setO i (d := .lst (rs.map D.lst)) hD8 (no6.bn D0 (by simp)) ⟨_, no6.hd, rl8⟩ (no6.ap D0 (by simp))
          rw [set_same hi2] at z
          refine h4 σ2 G8 H5 (e5.trans e8) z fun k hk => ?_
          have k1 : k ≠ i := fun e => hb.1 (by rw [← e]; exact hk)
          have k2 : k ∉ [r, c] := by
            simp only [List.mem_cons, List.not_mem_nil, or_false, not_or]
            exact ⟨fun e => hb.2.1 (by rw [← e]; exact hk), fun e => hb.2.2 (by rw [← e]; exact hk)⟩
          rw [ho2 k k2, List.getElem?_set_ne (Ne.symm k1)]
end
end ML
end
section
set_option Elab.async false
set_option linter.all false
set_option maxRecDepth 100000
set_option maxHeartbeats 2000000
set_option autoImplicit false
namespace ML
open PySem PySem.Spec PyProof.Rows L2
section
variable {u : Uv} {W : WX} {b : List Nat} {B G0 G G' H H' : Hp} {σ σ' : L2.St} {ε : Env}
theorem ckAt {ck : List (PySem.W.Frag → Bool)} {K : PySem.W.Frag} (h : (ck.all fun c => c K) = true) (i : Nat) {f : PySem.W.Frag → Bool} (e : ck[i]? = some f) : f K = true := List.all_eq_true.mp h f (List.mem_of_getElem? e)
theorem rs_seq2 {t1 t2 t3 : TS} {F F' : Env → SO} (h : RzS u W b (tSeq t1 t2) F) (h' : RzS u W b t3 F') : RzS u W b (tSeq t1 (tSeq t2 t3)) (seqF F F') := fun B G0 G H σ ε N R q => rs_seq h h' B G0 G H σ ε N R q
/-! ### tuples of ints, one by one -/
def tupCD (f : List Int → List Int → Bool) : D → D → Option D
  | .tup xs, .tup ys => (intsD xs).bind fun ns => (intsD ys).bind fun ms => some (.bl (f ns ms))
  | _, _ => none
def leTI (ns ms : List Int) : Bool := Ob.lexAt (fun j => decide (ns.getD j 0 = ms.getD j 0)) (fun j => decide (ns.getD j 0 ≤ ms.getD j 0)) (decide (ns.length ≤ ms.length)) 0 (min ns.length ms.length)
theorem tupCD_some {f : List Int → List Int → Bool} {d e z : D} (h : tupCD f d e = some z) : ∃ xs ys ns ms, d = .tup xs ∧ e = .tup ys ∧ intsD xs = some ns ∧ intsD ys = some ms ∧ z = .bl (f ns ms) := by
  cases d with
  | tup xs =>
    cases e with
    | tup ys =>
      simp only [tupCD] at h
      cases e1 : intsD xs with
      | none => rw [e1] at h; cases h
      | some ns =>
        rw [e1] at h
        cases e2 : intsD ys with
        | none => rw [e2] at h; cases h
        | some ms => rw [e2] at h; cases h; exact ⟨xs, ys, ns, ms, rfl, rfl, e1, e2, rfl⟩
    | _ => cases h
  | _ => cases h
theorem rr_leT : RzR u (rLeT u.K) (tupCD leTI) := fun x y d e z G H Q rx ry hz eg k => by
  obtain ⟨xs, ys, ns, ms, rfl, rfl, e1, e2, rfl⟩ := tupCD_some hz
  obtain ⟨a, vs, rfl, a1, a2⟩ := rep_tup.mp rx
  obtain ⟨c, ws, rfl, c1, c2⟩ := rep_tup.mp ry
  exact ⟨a, c, ns, ms, rfl, rfl, by rw [← intsD_rep a2 e1]; exact ex_t eg a1, by rw [← intsD_rep c2 e2]; exact ex_t eg c1, Kon.ret k eg (rep_bl.mpr rfl)⟩
theorem rr_ltT : RzR u (rLtT u.K) (tupCD HT.lexLt) := fun x y d e z G H Q rx ry hz eg k => by
  obtain ⟨xs, ys, ns, ms, rfl, rfl, e1, e2, rfl⟩ := tupCD_some hz
  obtain ⟨a, vs, rfl, a1, a2⟩ := rep_tup.mp rx
  obtain ⟨c, ws, rfl, c1, c2⟩ := rep_tup.mp ry
  exact ⟨a, c, ns, ms, rfl, rfl, by rw [← intsD_rep a2 e1]; exact ex_t eg a1, by rw [← intsD_rep c2 e2]; exact ex_t eg c1, Kon.ret k eg (rep_bl.mpr rfl)⟩
/-! ### a text in a written tuple of texts -/
def inCS (neg : Bool) (cs : List Str) : D → Option D
  | .str z => some (.bl (if neg then !cs.any (fun y => y == z) else cs.any fun y => y == z))
  | _ => none
theorem rz_inC {neg : Bool} {a : Addr} {cs : List Str} {te : TE} {f : Env → Out D} (hc : ∀ H, SqT u.K H a (cs.map V.str)) (h : RzE u W te f) : RzE u W (tOp (rIn u.K neg) te (tC (.ref a))) (op1F f (inCS neg cs)) := fun B G0 G H σ ε Q R q =>
  h _ _ _ _ _ _ _ R (q.bnd.mono fun d ε1 G1 H1 e1 R1 h1 v rv => by
    obtain ⟨z, hz, h2⟩ := h1.opt
    cases d with
    | str y =>
      have e := rep_str.mp rv
      subst e
      simp only [inCS, Option.some.injEq] at hz
      subst hz
      have e2 : inV (.str y) (cs.map V.str) = cs.any fun x => x == y := by
        simp only [inV, List.any_map]
        rfl
      refine ⟨a, _, rfl, .inr (hc H1), rfl, by simp [flatV], ?_⟩
      rw [e2]
      exact h2.ret R1 _ (rep_bl.mpr rfl)
    | _ => cases hz)
/-! ### x.replace(y, z), y and z written -/
def replD (y z : Str) : D → Option D
  | .str x => if x.length + (x.length + 1) * z.length ≤ 16777216 then some (.str (Txt.replace x y z)) else none
  | _ => none
theorem rz_repl {y z : Str} {te : TE} {f : Env → Out D} (h : RzE u W te f) : RzE u W (CwR.tReplC te y z) (op1F f (replD y z)) := fun B G0 G H σ ε Q R q =>
  h _ _ _ _ _ _ _ R (q.bnd.mono fun d ε1 G1 H1 e1 R1 h1 v rv => by
    obtain ⟨w, hz, h2⟩ := h1.opt
    cases d with
    | str x =>
      have e := rep_str.mp rv
      subst e
      simp only [replD] at hz
      split at hz
      · rename_i hl
        cases hz
        exact ⟨x, rfl, hl, h2.ret R1 _ (rep_str.mpr rfl)⟩
      · cases hz
    | _ => cases hz)
end
end ML
end
section
set_option Elab.async false
set_option linter.all false
set_option maxRecDepth 100000
set_option autoImplicit false
/-! ## the mirrors' plain laws: how they are worked out -/
namespace ML
open PySem PySem.Spec PyProof.Rows L2
section
variable {α β : Type} {ε : Env} {d : D}
@[simp] theorem bnd_ok {a : α} {k : α → Env → Out β} : (Out.ok a ε).bnd k = k a ε := rfl
@[simp] theorem bnd_bad {k : α → Env → Out β} : (Out.bad : Out α).bnd k = .bad := rfl
@[simp] theorem toS_ok {a : α} {k : α → Env → SO} : (Out.ok a ε).toS k = k a ε := rfl
@[simp] theorem toS_bad {k : α → Env → SO} : (Out.bad : Out α).toS k = .bad := rfl
@[simp] theorem opt_some {a : α} : Out.opt (some a) ε = .ok a ε := rfl
@[simp] theorem opt_none : Out.opt (none : Option α) ε = .bad := rfl
def vOut (i : Nat) (ε : Env) : Option Sl → Out D
  | some (.fz d) => .ok d ε
  | some (.ow d) => .ok d (ε.set i (.fz d))
  | _ => .bad
@[simp] theorem vOut_fz {i : Nat} : vOut i ε (some (.fz d)) = .ok d ε := rfl
@[simp] theorem vOut_ow {i : Nat} : vOut i ε (some (.ow d)) = .ok d (ε.set i (.fz d)) := rfl
@[simp] theorem varF_ap {i : Nat} : varF i ε = vOut i ε ε[i]? := by unfold varF vOut; rfl
@[simp] theorem cF_ap : cF d ε = .ok d ε := rfl
def op2K2 (f : D → D → Option D) (x : D) : D → Env → Out D := fun y ε => Out.opt (f x y) ε
def op2K (fb : Env → Out D) (f : D → D → Option D) : D → Env → Out D := fun x ε => (fb ε).bnd (op2K2 f x)
@[simp] theorem op2F_ap {fa fb : Env → Out D} {f : D → D → Option D} : op2F fa fb f ε = (fa ε).bnd (op2K fb f) := rfl
@[simp] theorem op2K_ap {fb : Env → Out D} {f : D → D → Option D} : op2K fb f d ε = (fb ε).bnd (op2K2 f d) := rfl
@[simp] theorem op2K2_ap {f : D → D → Option D} {e : D} : op2K2 f d e ε = Out.opt (f d e) ε := rfl
def op1K (f : D → Option D) : D → Env → Out D := fun x ε => Out.opt (f x) ε
@[simp] theorem op1F_ap {fa : Env → Out D} {f : D → Option D} : op1F fa f ε = (fa ε).bnd (op1K f) := rfl
@[simp] theorem op1K_ap {f : D → Option D} : op1K f d ε = Out.opt (f d) ε := rfl
@[simp] theorem nilF_ap : nilF ε = .ok [] ε := rfl
def consK2 (x : D) : List D → Env → Out (List D) := fun xs ε => .ok (x :: xs) ε
def consK (fr : Env → Out (List D)) : D → Env → Out (List D) := fun x ε => (fr ε).bnd (consK2 x)
@[simp] theorem consF_ap {fa : Env → Out D} {fr : Env → Out (List D)} : consF fa fr ε = (fa ε).bnd (consK fr) := rfl
@[simp] theorem consK_ap {fr : Env → Out (List D)} : consK fr d ε = (fr ε).bnd (consK2 d) := rfl
@[simp] theorem consK2_ap {xs : List D} : consK2 d xs ε = .ok (d :: xs) ε := rfl
def tupK : List D → Env → Out D := fun xs ε1 => if xs.length ≤ 100000 then .ok (.tup xs) ε1 else .bad
@[simp] theorem tupF_ap {fa : Env → Out (List D)} : tupF fa ε = (fa ε).bnd tupK := rfl
@[simp] theorem tupK_ap {xs : List D} : tupK xs ε = if xs.length ≤ 100000 then .ok (.tup xs) ε else .bad := rfl
def lstK : List D → Env → Out Sl := fun xs ε1 => if xs.length ≤ 100000 then .ok (.ow (.lst xs)) ε1 else .bad
@[simp] theorem lstM_ap {fa : Env → Out (List D)} : lstM fa ε = (fa ε).bnd lstK := rfl
@[simp] theorem lstK_ap {xs : List D} : lstK xs ε = if xs.length ≤ 100000 then .ok (.ow (.lst xs)) ε else .bad := rfl
@[simp] theorem slget_fz : (Sl.fz d).get = some d := rfl
@[simp] theorem slget_ow : (Sl.ow d).get = some d := rfl
def frzK : Sl → Env → Out D := fun s ε1 => Out.opt s.get ε1
@[simp] theorem frzF_ap {f : Env → Out Sl} : frzF f ε = (f ε).bnd frzK := rfl
@[simp] theorem frzK_ap {s : Sl} : frzK s ε = Out.opt s.get ε := rfl
def fzK : D → Env → Out Sl := fun d ε1 => .ok (.fz d) ε1
@[simp] theorem fzM_ap {f : Env → Out D} : fzM f ε = (f ε).bnd fzK := rfl
@[simp] theorem fzK_ap : fzK d ε = .ok (.fz d) ε := rfl
def cbK (f : List D → Option D) : List D → Env → Out D := fun xs ε1 => Out.opt (f xs) ε1
@[simp] theorem cbF_ap {fa : Env → Out (List D)} {f : List D → Option D} : cbF fa f ε = (fa ε).bnd (cbK f) := rfl
@[simp] theorem cbK_ap {xs : List D} {f : List D → Option D} : cbK f xs ε = Out.opt (f xs) ε := rfl
@[simp] theorem asB_bl {b : Bool} : asB (.bl b) = some b := rfl
def testK : D → Env → Out Bool := fun d ε1 => Out.opt (asB d) ε1
@[simp] theorem testF_ap {f : Env → Out D} : testF f ε = (f ε).bnd testK := rfl
@[simp] theorem testK_ap : testK d ε = Out.opt (asB d) ε := rfl
def andTK (g : Env → Out Bool) : Bool → Env → Out Bool := fun b ε1 => if b = true then g ε1 else .ok false ε1
@[simp] theorem andT_ap {f g : Env → Out Bool} : andT f g ε = (f ε).bnd (andTK g) := rfl
@[simp] theorem andTK_ap {g : Env → Out Bool} {b : Bool} : andTK g b ε = if b = true then g ε else .ok false ε := rfl
def orTK (g : Env → Out Bool) : Bool → Env → Out Bool := fun b ε1 => if b = true then .ok true ε1 else g ε1
@[simp] theorem orT_ap {f g : Env → Out Bool} : orT f g ε = (f ε).bnd (orTK g) := rfl
@[simp] theorem orTK_ap {g : Env → Out Bool} {b : Bool} : orTK g b ε = if b = true then .ok true ε else g ε := rfl
def notTK : Bool → Env → Out Bool := fun b ε1 => .ok (!b) ε1
@[simp] theorem notT_ap {f : Env → Out Bool} : notT f ε = (f ε).bnd notTK := rfl
@[simp] theorem notTK_ap {b : Bool} : notTK b ε = .ok (!b) ε := rfl
def andVK (g : Env → Out D) : D → Env → Out D := fun d ε1 => match asB d with
  | some true => g ε1
  | some false => .ok (.bl false) ε1
  | none => .bad
@[simp] theorem andV_ap {f g : Env → Out D} : andV f g ε = (f ε).bnd (andVK g) := rfl
@[simp] theorem andVK_ap {g : Env → Out D} {b : Bool} : andVK g (.bl b) ε = if b = true then g ε else .ok (.bl false) ε := by cases b <;> rfl
def orVK (g : Env → Out D) : D → Env → Out D := fun d ε1 => match asB d with
  | some true => .ok (.bl true) ε1
  | some false => g ε1
  | none => .bad
@[simp] theorem orV_ap {f g : Env → Out D} : orV f g ε = (f ε).bnd (orVK g) := rfl
@[simp] theorem orVK_ap {g : Env → Out D} {b : Bool} : orVK g (.bl b) ε = if b = true then .ok (.bl true) ε else g ε := by cases b <;> rfl
def notVK : D → Env → Out D := fun d ε1 => Out.opt ((asB d).map fun b => .bl (!b)) ε1
@[simp] theorem notV_ap {f : Env → Out D} : notV f ε = (f ε).bnd notVK := rfl
@[simp] theorem notVK_ap {b : Bool} : notVK (.bl b) ε = .ok (.bl (!b)) ε := rfl
def ifEK (f g : Env → Out D) : Bool → Env → Out D := fun b ε1 => if b = true then f ε1 else g ε1
@[simp] theorem ifE_ap {c : Env → Out Bool} {f g : Env → Out D} : ifE c f g ε = (c ε).bnd (ifEK f g) := rfl
@[simp] theorem ifEK_ap {f g : Env → Out D} {b : Bool} : ifEK f g b ε = if b = true then f ε else g ε := rfl
def chainK3 (g : D → D → Option D) (y : D) : D → Env → Out D := fun z ε3 => Out.opt (g y z) ε3
def chainK2 (fc : Env → Out D) (f g : D → D → Option D) (x : D) : D → Env → Out D := fun y ε2 => match (f x y).bind asB with
  | some true => (fc ε2).bnd (chainK3 g y)
  | some false => .ok (.bl false) ε2
  | none => .bad
def chainK (fb fc : Env → Out D) (f g : D → D → Option D) : D → Env → Out D := fun x ε1 => (fb ε1).bnd (chainK2 fc f g x)
@[simp] theorem chainF_ap {fa fb fc : Env → Out D} {f g : D → D → Option D} : chainF fa fb fc f g ε = (fa ε).bnd (chainK fb fc f g) := rfl
@[simp] theorem chainK_ap {fb fc : Env → Out D} {f g : D → D → Option D} : chainK fb fc f g d ε = (fb ε).bnd (chainK2 fc f g d) := rfl
@[simp] theorem chainK3_ap {g : D → D → Option D} {e : D} : chainK3 g d e ε = Out.opt (g d e) ε := rfl
theorem chainK2_ap {fc : Env → Out D} {f g : D → D → Option D} {e : D} {b : Bool} (h : f d e = some (.bl b)) : chainK2 fc f g d e ε = if b = true then (fc ε).bnd (chainK3 g e) else .ok (.bl false) ε := by
  unfold chainK2; rw [h]; cases b <;> rfl
@[simp] theorem chainK2_cmp {fc : Env → Out D} {f : Int → Int → Bool} {g : D → D → Option D} {i j : Int} : chainK2 fc (cmpD f) g (.int i) (.int j) ε = if f i j = true then (fc ε).bnd (chainK3 g (.int j)) else .ok (.bl false) ε :=
  chainK2_ap (by simp [cmpD, intOp])
/-! statements -/
def SO.thn (o : SO) (F : Env → SO) : SO := match o with
  | .nx ε' => F ε'
  | o => o
@[simp] theorem thn_nx {F : Env → SO} : (SO.nx ε).thn F = F ε := rfl
@[simp] theorem thn_rt {F : Env → SO} : (SO.rt d ε).thn F = .rt d ε := rfl
@[simp] theorem thn_bad {F : Env → SO} : SO.bad.thn F = .bad := rfl
@[simp] theorem seqF_ap {F F' : Env → SO} : seqF F F' ε = (F ε).thn F' := by unfold seqF SO.thn; rfl
def ifSK (F F' : Env → SO) : Bool → Env → SO := fun b ε1 => if b = true then F ε1 else F' ε1
@[simp] theorem ifS_ap {c : Env → Out Bool} {F F' : Env → SO} : ifS c F F' ε = (c ε).toS (ifSK F F') := rfl
@[simp] theorem ifSK_ap {F F' : Env → SO} {b : Bool} : ifSK F F' b ε = if b = true then F ε else F' ε := rfl
def retK : D → Env → SO := fun d ε1 => .rt d ε1
@[simp] theorem retF_ap {f : Env → Out D} : retF f ε = (f ε).toS retK := rfl
@[simp] theorem retK_ap : retK d ε = .rt d ε := rfl
@[simp] theorem retN_ap : retN ε = .rt .non ε := rfl
@[simp] theorem nxF_ap : nxF ε = .nx ε := rfl
@[simp] theorem neverF_ap : neverF ε = .bad := rfl
def dropK : D → Env → SO := fun _ ε1 => .nx ε1
@[simp] theorem dropF_ap {f : Env → Out D} : dropF f ε = (f ε).toS dropK := rfl
@[simp] theorem dropK_ap : dropK d ε = .nx ε := rfl
@[simp] theorem gnF_ap {i : Nat} : gnF i d ε = some (ε.set i (.fz d)) := rfl
@[simp] theorem gnilF_ap : gnilF [] ε = some ε := rfl
@[simp] theorem gconsF_ap {gf : D → Env → Option Env} {gs : List D → Env → Option Env} {ds : List D} : gconsF gf gs (d :: ds) ε = (gf d ε).bind (gs ds) := rfl
@[simp] theorem gtupF_ap {n : Nat} {gs : List D → Env → Option Env} {ds : List D} : gtupF n gs (.tup ds) ε = if ds.length = n then gs ds ε else none := rfl
def optS : Option Env → SO
  | some ε2 => .nx ε2
  | none => .bad
@[simp] theorem optS_some : optS (some ε) = .nx ε := rfl
def asgK (gf : D → Env → Option Env) : D → Env → SO := fun d ε => optS (gf d ε)
@[simp] theorem asgF_ap {f : Env → Out D} {gf : D → Env → Option Env} : asgF f gf ε = (f ε).toS (asgK gf) := by
  unfold asgF asgK optS; congr 1
@[simp] theorem asgK_ap {gf : D → Env → Option Env} : asgK gf d ε = optS (gf d ε) := rfl
def setK (i : Nat) : Sl → Env → SO := fun s ε1 => .nx (ε1.set i s)
@[simp] theorem setM_ap {f : Env → Out Sl} {i : Nat} : setM f i ε = (f ε).toS (setK i) := rfl
@[simp] theorem setK_ap {i : Nat} {s : Sl} : setK i s ε = .nx (ε.set i s) := rfl
def parK2 (i j : Nat) (s : Sl) : Sl → Env → SO := fun t ε2 => .nx ((ε2.set i s).set j t)
def parK (i j : Nat) (g : Env → Out Sl) : Sl → Env → SO := fun s ε1 => (g ε1).toS (parK2 i j s)
@[simp] theorem parF_ap {i j : Nat} {f g : Env → Out Sl} : parF i j f g ε = (f ε).toS (parK i j g) := rfl
@[simp] theorem parK_ap {i j : Nat} {g : Env → Out Sl} {s : Sl} : parK i j g s ε = (g ε).toS (parK2 i j s) := rfl
@[simp] theorem parK2_ap {i j : Nat} {s t : Sl} : parK2 i j s t ε = .nx ((ε.set i s).set j t) := rfl
/-! calls -/
@[simp] theorem callO_ret : callO (.ret d) ε = .ok d ε := rfl
def callK (n : Nat) (F : List D → Rt) : List D → Env → Out D := fun ds ε1 => if ds.length = n then callO (F ds) ε1 else .bad
@[simp] theorem callF_ap {n : Nat} {fa : Env → Out (List D)} {F : List D → Rt} : callF n fa F ε = (fa ε).bnd (callK n F) := rfl
@[simp] theorem callK_ap {n : Nat} {ds : List D} {F : List D → Rt} : callK n F ds ε = if ds.length = n then callO (F ds) ε else .bad := rfl
@[simp] theorem fin_nx : (SO.nx ε).fin = .ret .non := rfl
@[simp] theorem fin_rt : (SO.rt d ε).fin = .ret d := rfl
def oAt : Option Sl → Option D
  | some (.ow d) => some d
  | _ => none
@[simp] theorem oAt_ow : oAt (some (.ow d)) = some d := rfl
@[simp] theorem ownAt_ap {i : Nat} : ownAt i ε = oAt ε[i]? := by unfold ownAt oAt; rfl
def callMR (i : Nat) (ε : Env) : RtM → Out D
  | .ret r d' => .ok r (ε.set i (.ow d'))
  | .bad => .bad
@[simp] theorem callMR_ret {i : Nat} {e : D} : callMR i ε (.ret d e) = .ok d (ε.set i (.ow e)) := rfl
def callMK2 (i : Nat) (F : D → List D → RtM) (ds : List D) (ε : Env) : Option D → Out D
  | none => .bad
  | some d => callMR i ε (F d ds)
@[simp] theorem callMK2_some {i : Nat} {F : D → List D → RtM} {ds : List D} : callMK2 i F ds ε (some d) = callMR i ε (F d ds) := rfl
def callMK (n i : Nat) (F : D → List D → RtM) : List D → Env → Out D := fun ds ε1 => if ds.length = n then callMK2 i F ds ε1 (oAt ε1[i]?) else .bad
@[simp] theorem callMK_ap {n i : Nat} {F : D → List D → RtM} {ds : List D} : callMK n i F ds ε = if ds.length = n then callMK2 i F ds ε (oAt ε[i]?) else .bad := rfl
def callM0 (n i : Nat) (fa : Env → Out (List D)) (F : D → List D → RtM) (ε : Env) : Option D → Out D
  | none => .bad
  | some _ => (fa ε).bnd (callMK n i F)
@[simp] theorem callM0_some {n i : Nat} {fa : Env → Out (List D)} {F : D → List D → RtM} : callM0 n i fa F ε (some d) = (fa ε).bnd (callMK n i F) := rfl
@[simp] theorem callMF_ap {n i : Nat} {fa : Env → Out (List D)} {F : D → List D → RtM} : callMF n i fa F ε = callM0 n i fa F ε (oAt ε[i]?) := by
  unfold callMF
  rw [ownAt_ap]
  cases oAt ε[i]? with
  | none => rfl
  | some d =>
    show (fa ε).bnd _ = (fa ε).bnd _
    congr 1
@[simp] theorem finM_nx {r : Env} : (SO.nx (.ow d :: r)).finM = .ret .non d := rfl
@[simp] theorem finM_rt {e : D} {r : Env} : (SO.rt e (.ow d :: r)).finM = .ret e d := rfl
/-! own lists and dicts -/
def oL : Option Sl → Option (List D)
  | some (.ow (.lst ds)) => some ds
  | _ => none
@[simp] theorem oL_ow {ds : List D} : oL (some (.ow (.lst ds))) = some ds := rfl
@[simp] theorem ownL_ap {i : Nat} : ownL i ε = oL ε[i]? := by unfold ownL oL; rfl
def appK2 (i : Nat) (d : D) (ε : Env) : Option (List D) → SO
  | some ds => if ds.length < 100000 then .nx (ε.set i (.ow (.lst (ds ++ [d])))) else .bad
  | none => .bad
@[simp] theorem appK2_some {i : Nat} {ds : List D} : appK2 i d ε (some ds) = if ds.length < 100000 then .nx (ε.set i (.ow (.lst (ds ++ [d])))) else .bad := rfl
def appK (i : Nat) : D → Env → SO := fun d ε => appK2 i d ε (oL ε[i]?)
@[simp] theorem appK_ap {i : Nat} : appK i d ε = appK2 i d ε (oL ε[i]?) := rfl
def app0 (i : Nat) (f : Env → Out D) (ε : Env) : Option (List D) → SO
  | none => .bad
  | some _ => (f ε).toS (appK i)
@[simp] theorem app0_some {i : Nat} {f : Env → Out D} {ds : List D} : app0 i f ε (some ds) = (f ε).toS (appK i) := rfl
@[simp] theorem appF_ap {i : Nat} {f : Env → Out D} : appF i f ε = app0 i f ε (oL ε[i]?) := by
  unfold appF
  rw [ownL_ap]
  cases oL ε[i]? with
  | none => rfl
  | some d =>
    show (f ε).toS _ = (f ε).toS _
    congr 1
def pop2 (i : Nat) (ds : List D) (ε : Env) : Option D → Out D
  | some d => .ok d (ε.set i (.ow (.lst ds.dropLast)))
  | none => .bad
@[simp] theorem pop2_some {i : Nat} {ds : List D} : pop2 i ds ε (some d) = .ok d (ε.set i (.ow (.lst ds.dropLast))) := rfl
def pop0 (i : Nat) (ε : Env) : Option (List D) → Out D
  | none => .bad
  | some ds => pop2 i ds ε ds[ds.length - 1]?
@[simp] theorem pop0_some {i : Nat} {ds : List D} : pop0 i ε (some ds) = pop2 i ds ε ds[ds.length - 1]? := rfl
@[simp] theorem popF_ap {i : Nat} : popF i ε = pop0 i ε (oL ε[i]?) := by
  unfold popF
  rw [ownL_ap]
  cases oL ε[i]? with
  | none => rfl
  | some ds =>
    unfold pop0 pop2
    rfl
def setI3 (i : Nat) (d : D) (ds : List D) (ε : Env) : Option Nat → SO
  | some j => .nx (ε.set i (.ow (.lst (ds.set j d))))
  | none => .bad
@[simp] theorem setI3_some {i j : Nat} {ds : List D} : setI3 i d ds ε (some j) = .nx (ε.set i (.ow (.lst (ds.set j d)))) := rfl
def setI2 (i : Nat) (d : D) (ε : Env) : D → Option (List D) → SO
  | .int k, some ds => setI3 i d ds ε (ixN ds.length k)
  | _, _ => .bad
@[simp] theorem setI2_some {i : Nat} {k : Int} {ds : List D} : setI2 i d ε (.int k) (some ds) = setI3 i d ds ε (ixN ds.length k) := rfl
def setIK2 (i : Nat) (d : D) : D → Env → SO := fun k ε => setI2 i d ε k (oL ε[i]?)
@[simp] theorem setIK2_ap {i : Nat} {e : D} : setIK2 i d e ε = setI2 i d ε e (oL ε[i]?) := rfl
def setI1 (i : Nat) (fi : Env → Out D) (d : D) (ε : Env) : Option (List D) → SO
  | none => .bad
  | some _ => (fi ε).toS (setIK2 i d)
@[simp] theorem setI1_some {i : Nat} {fi : Env → Out D} {ds : List D} : setI1 i fi d ε (some ds) = (fi ε).toS (setIK2 i d) := rfl
def setIK (i : Nat) (fi : Env → Out D) : D → Env → SO := fun d ε => setI1 i fi d ε (oL ε[i]?)
@[simp] theorem setIK_ap {i : Nat} {fi : Env → Out D} : setIK i fi d ε = setI1 i fi d ε (oL ε[i]?) := rfl
@[simp] theorem setIF_ap {i : Nat} {fe fi : Env → Out D} : setIF i fe fi ε = (fe ε).toS (setIK i fi) := by
  unfold setIF
  congr 1
def lkAt : Option Sl → Option D
  | some (.fz d) => some d
  | some (.ow d) => some d
  | _ => none
@[simp] theorem lkAt_fz : lkAt (some (.fz d)) = some d := rfl
@[simp] theorem lkAt_ow : lkAt (some (.ow d)) = some d := rfl
@[simp] theorem lookAt_ap {i : Nat} : lookAt i ε = lkAt ε[i]? := by unfold lookAt lkAt; rfl
def ixP2 (ε : Env) : D → Option D → Out D
  | .int j, some (.lst xs) => Out.opt (atI xs j) ε
  | _, _ => .bad
@[simp] theorem ixP2_ap {j : Int} {xs : List D} : ixP2 ε (.int j) (some (.lst xs)) = Out.opt (atI xs j) ε := rfl
def ixPK (i : Nat) : D → Env → Out D := fun e ε => ixP2 ε e (lkAt ε[i]?)
@[simp] theorem ixPK_ap {i : Nat} : ixPK i d ε = ixP2 ε d (lkAt ε[i]?) := rfl
def ixP0 (i : Nat) (fb : Env → Out D) (ε : Env) : Option D → Out D
  | none => .bad
  | some _ => (fb ε).bnd (ixPK i)
@[simp] theorem ixP0_some {i : Nat} {fb : Env → Out D} : ixP0 i fb ε (some d) = (fb ε).bnd (ixPK i) := rfl
@[simp] theorem ixPF_ap {i : Nat} {fb : Env → Out D} : ixPF i fb ε = ixP0 i fb ε (lkAt ε[i]?) := by
  unfold ixPF
  rw [lookAt_ap]
  cases lkAt ε[i]? with
  | none => rfl
  | some d =>
    show (fb ε).bnd _ = (fb ε).bnd _
    congr 1
def scOut (ε : Env) : Option D → Out D
  | some z => if isSc z = true then .ok z ε else .bad
  | none => .bad
@[simp] theorem scOut_some : scOut ε (some d) = if isSc d = true then .ok d ε else .bad := rfl
@[simp] theorem isSc_bl {b : Bool} : isSc (.bl b) = true := rfl
@[simp] theorem isSc_int {i : Int} : isSc (.int i) = true := rfl
def opPLK (i : Nat) (f : D → D → Option D) : D → Env → Out D := fun e ε => scOut ε ((lkAt ε[i]?).bind fun d => f d e)
@[simp] theorem opPLK_ap {i : Nat} {f : D → D → Option D} : opPLK i f d ε = scOut ε ((lkAt ε[i]?).bind fun x => f x d) := rfl
def opPL0 (i : Nat) (fb : Env → Out D) (f : D → D → Option D) (ε : Env) : Option D → Out D
  | none => .bad
  | some _ => (fb ε).bnd (opPLK i f)
@[simp] theorem opPL0_some {i : Nat} {fb : Env → Out D} {f : D → D → Option D} : opPL0 i fb f ε (some d) = (fb ε).bnd (opPLK i f) := rfl
@[simp] theorem opPLF_ap {i : Nat} {fb : Env → Out D} {f : D → D → Option D} : opPLF i fb f ε = opPL0 i fb f ε (lkAt ε[i]?) := by
  unfold opPLF
  rw [lookAt_ap]
  cases lkAt ε[i]? with
  | none => rfl
  | some d =>
    show (fb ε).bnd _ = (fb ε).bnd _
    congr 1
def opPRK (i : Nat) (f : D → D → Option D) : D → Env → Out D := fun d ε => scOut ε ((lkAt ε[i]?).bind fun e => f d e)
@[simp] theorem opPRK_ap {i : Nat} {f : D → D → Option D} : opPRK i f d ε = scOut ε ((lkAt ε[i]?).bind fun e => f d e) := rfl
@[simp] theorem opPRF_ap {i : Nat} {fa : Env → Out D} {f : D → D → Option D} : opPRF i fa f ε = (fa ε).bnd (opPRK i f) := by
  unfold opPRF
  congr 1
@[simp] theorem nilMs_ap : nilMs ε = .ok [] ε := rfl
def consMK2 (s : Sl) : List Sl → Env → Out (List Sl) := fun ss ε => .ok (s :: ss) ε
def consMK (fr : Env → Out (List Sl)) : Sl → Env → Out (List Sl) := fun s ε => (fr ε).bnd (consMK2 s)
@[simp] theorem consMs_ap {f : Env → Out Sl} {fr : Env → Out (List Sl)} : consMs f fr ε = (f ε).bnd (consMK fr) := rfl
@[simp] theorem consMK_ap {fr : Env → Out (List Sl)} {s : Sl} : consMK fr s ε = (fr ε).bnd (consMK2 s) := rfl
@[simp] theorem consMK2_ap {s : Sl} {ss : List Sl} : consMK2 s ss ε = .ok (s :: ss) ε := rfl
def par3K (i j k : Nat) : List Sl → Env → SO := fun ss ε1 => match ss with
  | [s, t, r] => .nx (((ε1.set i s).set j t).set k r)
  | _ => .bad
@[simp] theorem par3F_ap {i j k : Nat} {f : Env → Out (List Sl)} : par3F i j k f ε = (f ε).toS (par3K i j k) := rfl
@[simp] theorem par3K_ap {i j k : Nat} {s t r : Sl} : par3K i j k [s, t, r] ε = .nx (((ε.set i s).set j t).set k r) := rfl
def dinP2 (neg : Bool) (ε : Env) (kt : Option (List Key)) : Option Key → Option D → Out D
  | some k, some (.dk ks xs) => .ok (.bl (if neg then !(valD ks xs k).isSome else (valD ks xs k).isSome)) ε
  | none, some (.dt ks xs) => (match kt with
    | some k => .ok (.bl (if neg then !(valD ks xs k).isSome else (valD ks xs k).isSome)) ε
    | none => .bad)
  | _, _ => .bad
@[simp] theorem dinP2_ap {neg : Bool} {k : Key} {ks : List Key} {xs : List D} {kt : Option (List Key)} : dinP2 neg ε kt (some k) (some (.dk ks xs)) = .ok (.bl (if neg then !(valD ks xs k).isSome else (valD ks xs k).isSome)) ε := rfl
@[simp] theorem dinP2_t {neg : Bool} {k : List Key} {ks : List (List Key)} {xs : List D} : dinP2 neg ε (some k) none (some (.dt ks xs)) = .ok (.bl (if neg then !(valD ks xs k).isSome else (valD ks xs k).isSome)) ε := rfl
def dinPK (neg : Bool) (i : Nat) : D → Env → Out D := fun k ε => dinP2 neg ε (toKeys k) (toKey k) (lkAt ε[i]?)
@[simp] theorem dinPK_ap {neg : Bool} {i : Nat} : dinPK neg i d ε = dinP2 neg ε (toKeys d) (toKey d) (lkAt ε[i]?) := rfl
@[simp] theorem dinPF_ap {neg : Bool} {i : Nat} {fk : Env → Out D} : dinPF neg i fk ε = (fk ε).bnd (dinPK neg i) := by
  unfold dinPF
  congr 1
@[simp] theorem toKey_tup {ds : List D} : toKey (.tup ds) = none := rfl
@[simp] theorem toKeys_tup {ds : List D} : toKeys (.tup ds) = kysOf ds := rfl
@[simp] theorem toKey_int {i : Int} : toKey (.int i) = some (.inl i) := rfl
@[simp] theorem dnewM_ap : dnewM ε = .ok (.ow (.dk [] [])) ε := rfl
def done1K2 (k : D) : D → Env → Out Sl := fun d ε2 => Out.opt ((toKey k).map fun k => .ow (.dk [k] [d])) ε2
def done1K (fv : Env → Out D) : D → Env → Out Sl := fun k ε1 => (fv ε1).bnd (done1K2 k)
@[simp] theorem done1M_ap {fk fv : Env → Out D} : done1M fk fv ε = (fk ε).bnd (done1K fv) := rfl
@[simp] theorem done1K_ap {fv : Env → Out D} : done1K fv d ε = (fv ε).bnd (done1K2 d) := rfl
@[simp] theorem done1K2_ap {e : D} : done1K2 d e ε = Out.opt ((toKey d).map fun k => .ow (.dk [k] [e])) ε := rfl
def dputO (i : Nat) (ε : Env) : Option D → SO
  | some x' => .nx (ε.set i (.ow x'))
  | none => .bad
@[simp] theorem dputO_some {i : Nat} : dputO i ε (some d) = .nx (ε.set i (.ow d)) := rfl
def dputK2 (i : Nat) (d : D) : D → Env → SO := fun k ε2 => dputO i ε2 ((oAt ε2[i]?).bind fun x => dput x k d)
@[simp] theorem dputK2_ap {i : Nat} {e : D} : dputK2 i d e ε = dputO i ε ((oAt ε[i]?).bind fun x => dput x e d) := rfl
def dput1 (i : Nat) (fk : Env → Out D) (d : D) (ε : Env) : Option D → SO
  | none => .bad
  | some _ => (fk ε).toS (dputK2 i d)
@[simp] theorem dput1_some {i : Nat} {fk : Env → Out D} {e : D} : dput1 i fk d ε (some e) = (fk ε).toS (dputK2 i d) := rfl
def dputK (i : Nat) (fk : Env → Out D) : D → Env → SO := fun d ε => dput1 i fk d ε (oAt ε[i]?)
@[simp] theorem dputK_ap {i : Nat} {fk : Env → Out D} : dputK i fk d ε = dput1 i fk d ε (oAt ε[i]?) := rfl
@[simp] theorem dputF_ap {i : Nat} {fe fk : Env → Out D} : dputF i fe fk ε = (fe ε).toS (dputK i fk) := by
  unfold dputF
  congr 1
/-! walks -/
@[simp] theorem itemsD_lst {ds : List D} : itemsD (.lst ds) = some ds := rfl
@[simp] theorem itemsD_tup {ds : List D} : itemsD (.tup ds) = some ds := rfl
@[simp] theorem itemsD_str {z : Str} : itemsD (.str z) = some (signsD z) := rfl
def itK : D → Env → Out (List D) := fun d ε1 => Out.opt (itemsD d) ε1
@[simp] theorem itF_ap {f : Env → Out D} : itF f ε = (f ε).bnd itK := rfl
@[simp] theorem itK_ap : itK d ε = Out.opt (itemsD d) ε := rfl
def enK : D → Env → Out (List D) := fun d ε1 => match d with
  | .lst ds => .ok (enumD ds) ε1
  | .tup ds => .ok (enumD ds) ε1
  | .str z => .ok (enumD (signsD z)) ε1
  | _ => .bad
@[simp] theorem enF_ap {f : Env → Out D} : enF f ε = (f ε).bnd enK := rfl
@[simp] theorem enK_lst {ds : List D} : enK (.lst ds) ε = .ok (enumD ds) ε := rfl
@[simp] theorem enK_tup {ds : List D} : enK (.tup ds) ε = .ok (enumD ds) ε := rfl
@[simp] theorem enK_str {z : Str} : enK (.str z) ε = .ok (enumD (signsD z)) ε := rfl
def rng1K : D → Env → Out (List D) := fun d ε1 => match d with
  | .int n => if okR n = true then .ok (rangeD 0 n.toNat) ε1 else .bad
  | _ => .bad
@[simp] theorem rng1F_ap {f : Env → Out D} : rng1F f ε = (f ε).bnd rng1K := rfl
theorem rng1K_ap {n : Int} : rng1K (.int n) ε = if okR n = true then .ok (rangeD 0 n.toNat) ε else .bad := rfl
def rng2K2 (d : D) : D → Env → Out (List D) := fun e ε2 => match d, e with
  | .int i, .int j => if okR i = true ∧ okR j = true then .ok (rangeD i (j - i).toNat) ε2 else .bad
  | _, _ => .bad
def rng2K (g : Env → Out D) : D → Env → Out (List D) := fun d ε1 => (g ε1).bnd (rng2K2 d)
@[simp] theorem rng2F_ap {f g : Env → Out D} : rng2F f g ε = (f ε).bnd (rng2K g) := rfl
@[simp] theorem rng2K_ap {g : Env → Out D} : rng2K g d ε = (g ε).bnd (rng2K2 d) := rfl
theorem rng2K2_ap {i j : Int} : rng2K2 (.int i) (.int j) ε = if okR i = true ∧ okR j = true then .ok (rangeD i (j - i).toNat) ε else .bad := rfl
theorem okR_nat {n : Nat} (h : n ≤ 1000000) : okR (n : Int) = true := by
  unfold okR
  rw [Bool.and_eq_true]
  exact ⟨decide_eq_true (by omega), decide_eq_true (by omega)⟩
theorem rng1K_nat {n : Nat} (h : n ≤ 1000000) : rng1K (.int (n : Int)) ε = .ok (rangeD 0 n) ε := by
  rw [rng1K_ap, if_pos (okR_nat h), Int.toNat_natCast]
theorem rng2K2_nat {i j : Nat} (h : i ≤ 1000000) (h' : j ≤ 1000000) : rng2K2 (.int (i : Int)) (.int (j : Int)) ε = .ok (rangeD i (j - i)) ε := by
  rw [rng2K2_ap, if_pos ⟨okR_nat h, okR_nat h'⟩, show ((j : Int) - (i : Int)).toNat = j - i by omega]
def starK2 (ds : List D) : List D → Env → Out (List D) := fun xs ε2 => .ok (ds ++ xs) ε2
@[simp] theorem starK2_ap {ds xs : List D} : starK2 ds xs ε = .ok (ds ++ xs) ε := rfl
def starK (fr : Env → Out (List D)) : D → Env → Out (List D) := fun d ε1 => match d with
  | .lst ds => (fr ε1).bnd (starK2 ds)
  | .tup ds => (fr ε1).bnd (starK2 ds)
  | .str z => if z.cps.size ≤ 100000 then (fr ε1).bnd (starK2 (signsD z)) else .bad
  | _ => .bad
@[simp] theorem starF_ap {f : Env → Out D} {fr : Env → Out (List D)} : starF f fr ε = (f ε).bnd (starK fr) := rfl
@[simp] theorem starK_lst {fr : Env → Out (List D)} {ds : List D} : starK fr (.lst ds) ε = (fr ε).bnd (starK2 ds) := rfl
@[simp] theorem starK_tup {fr : Env → Out (List D)} {ds : List D} : starK fr (.tup ds) ε = (fr ε).bnd (starK2 ds) := rfl
@[simp] theorem starK_str {fr : Env → Out (List D)} {z : Str} : starK fr (.str z) ε = if z.cps.size ≤ 100000 then (fr ε).bnd (starK2 (signsD z)) else .bad := rfl
def forK (gf : D → Env → Option Env) (F : Env → SO) : List D → Env → SO := fun ds ε1 => forF gf F ds ε1
@[simp] theorem forS_ap {fi : Env → Out (List D)} {gf : D → Env → Option Env} {F : Env → SO} : forS fi gf F ε = (fi ε).toS (forK gf F) := rfl
@[simp] theorem forK_ap {gf : D → Env → Option Env} {F : Env → SO} {ds : List D} : forK gf F ds ε = forF gf F ds ε := rfl
def lcK (vs : List Nat) (gf : D → Env → Option Env) (tf : Env → Out Bool) (ef : Env → Out D) : List D → Env → Out Sl := fun ds ε1 => (lcL vs gf tf ef ds [] (wipeE ε1 vs)).bnd mkL
@[simp] theorem lcM_ap {vs : List Nat} {fi : Env → Out (List D)} {gf : D → Env → Option Env} {tf : Env → Out Bool} {ef : Env → Out D} : lcM vs fi gf tf ef ε = (fi ε).bnd (lcK vs gf tf ef) := rfl
@[simp] theorem lcK_ap {vs : List Nat} {gf : D → Env → Option Env} {tf : Env → Out Bool} {ef : Env → Out D} {ds : List D} : lcK vs gf tf ef ds ε = (lcL vs gf tf ef ds [] (wipeE ε vs)).bnd mkL := rfl
@[simp] theorem mkL_ap {ds : List D} : mkL ds ε = .ok (.ow (.lst ds)) ε := rfl
@[simp] theorem tYesF_ap : tYesF ε = .ok true ε := rfl
@[simp] theorem wipeE_nil : wipeE ε [] = ε := rfl
@[simp] theorem wipeE_cons {v : Nat} {vs : List Nat} : wipeE ε (v :: vs) = (wipeE ε vs).set v .no := rfl
/-! single ops -/
@[simp] theorem addD_int {i j : Int} : addD (.int i) (.int j) = some (.int (i + j)) := rfl
@[simp] theorem subD_int {i j : Int} : subD (.int i) (.int j) = some (.int (i - j)) := rfl
@[simp] theorem negD_int {i : Int} : negD (.int i) = some (.int (-i)) := rfl
@[simp] theorem cmpD_int {f : Int → Int → Bool} {i j : Int} : cmpD f (.int i) (.int j) = some (.bl (f i j)) := rfl
@[simp] theorem intD_int {i : Int} : intD [.int i] = some (.int i) := rfl
@[simp] theorem intD_bl {b : Bool} : intD [.bl b] = some (.int (if b then 1 else 0)) := rfl
theorem modD_int {i j : Int} (h : 0 < j) : modD (.int i) (.int j) = some (.int (i % j)) := by simp [modD, intOp, h]
theorem fdivD_int {i j : Int} (h : 0 < j) (h2 : j < 1073741824) : fdivD (.int i) (.int j) = some (.int (i / j)) := by simp [fdivD, intOp, h, h2]
@[simp] theorem tupleD_lst {ds : List D} : tupleD [.lst ds] = some (.tup ds) := rfl
@[simp] theorem tupleD_tup {ds : List D} : tupleD [.tup ds] = some (.tup ds) := rfl
@[simp] theorem listD_tup {ds : List D} : listD [.tup ds] = some (.lst ds) := rfl
@[simp] theorem eqD_int {i j : Int} : eqD (.int i) (.int j) = some (.bl (i == j)) := rfl
@[simp] theorem neD_int {i j : Int} : neD (.int i) (.int j) = some (.bl (!(i == j))) := rfl
@[simp] theorem lenA_lst {c : Nat} {F : List D → Rt} {ds : List D} : lenA c F [.lst ds] = some (.int ds.length) := rfl
@[simp] theorem lenA_tup {c : Nat} {F : List D → Rt} {ds : List D} : lenA c F [.tup ds] = some (.int ds.length) := rfl
@[simp] theorem lenA_scr {c : Nat} {F : List D → Rt} {ns : List Int} : lenA c F [.scr ns] = some (.int ns.length) := rfl
theorem lenA_str {c : Nat} {F : List D → Rt} {z : Str} (h : z.length ≤ 100000) : lenA c F [.str z] = some (.int z.length) := by simp [lenA, oneD, lenN, h]
@[simp] theorem lenD_lst {ds : List D} : lenD [.lst ds] = some (.int ds.length) := rfl
theorem atI_nat {α : Type} (xs : List α) (k : Nat) : atI xs (k : Int) = xs[k]? := by
  unfold atI ixN
  by_cases h : k < xs.length
  · simp [h]
  · simp [h]
theorem atI_of {α : Type} (xs : List α) {i : Int} (h : 0 ≤ i) : atI xs i = xs[i.toNat]? := by
  have e : i = (i.toNat : Int) := by omega
  conv => lhs; rw [e]
  rw [atI_nat]
def isiK (T : String) : D → Env → Out D := fun d ε1 => match d with
  | .scr _ => .bad
  | .obj _ _ _ => .ok (.bl false) ε1
  | d => .ok (.bl (isiB d T)) ε1
@[simp] theorem isiF_ap {f : Env → Out D} {T : String} : isiF f T ε = (f ε).bnd (isiK T) := by unfold isiF isiK; rfl
def isoK (c : Nat) : D → Env → Out D := fun d ε1 => match d with
  | .scr _ => .bad
  | .obj c' _ _ => if c' = c then .ok (.bl true) ε1 else .bad
  | _ => .ok (.bl false) ε1
@[simp] theorem isoF_ap {f : Env → Out D} {c : Nat} : isoF f c ε = (f ε).bnd (isoK c) := by unfold isoF isoK; rfl
def fldK (c : Nat) (f : Str) : D → Env → Out D := fun d ε1 => match d with
  | .obj c' fs ds => if c' = c then Out.opt (lookN fs ds f) ε1 else .bad
  | _ => .bad
@[simp] theorem fldF_ap {g : Env → Out D} {c : Nat} {f : Str} : fldF g c f ε = (g ε).bnd (fldK c f) := by unfold fldF fldK; rfl
@[simp] theorem fldK_one {c : Nat} {f : Str} {xs : List D} : fldK c f (.obj c [f] (d :: xs)) ε = .ok d ε := by simp [fldK, lookN, valD, Out.opt]
def joinK2 (a : Str) : D → Env → Out D := fun d ε2 => match d with
    | .lst ds => Out.opt ((strsD ds).bind (joinS a)) ε2
    | .tup ds => Out.opt ((strsD ds).bind (joinS a)) ε2
    | _ => .bad
def joinK (g : Env → Out D) : D → Env → Out D := fun a ε1 => match a with
  | .str a => (g ε1).bnd (joinK2 a)
  | _ => .bad
@[simp] theorem joinF_ap {f g : Env → Out D} : joinF f g ε = (f ε).bnd (joinK g) := by unfold joinF joinK joinK2; rfl
@[simp] theorem joinK_ap {g : Env → Out D} {a : Str} : joinK g (.str a) ε = (g ε).bnd (joinK2 a) := rfl
@[simp] theorem joinK2_lst {a : Str} {ds : List D} : joinK2 a (.lst ds) ε = Out.opt ((strsD ds).bind (joinS a)) ε := rfl
def makeR (ε : Env) : RtM → Out Sl
  | .ret .non d1 => .ok (.ow d1) ε
  | _ => .bad
@[simp] theorem makeR_ret : makeR ε (.ret .non d) = .ok (.ow d) ε := rfl
def makeK (c n : Nat) (F : D → List D → RtM) : List D → Env → Out Sl := fun ds ε1 => if ds.length = n then makeR ε1 (F (.obj c [] []) ds) else .bad
@[simp] theorem makeM_ap {c n : Nat} {fa : Env → Out (List D)} {F : D → List D → RtM} : makeM c n fa F ε = (fa ε).bnd (makeK c n F) := by unfold makeM makeK makeR; rfl
@[simp] theorem makeK_ap {c n : Nat} {ds : List D} {F : D → List D → RtM} : makeK c n F ds ε = if ds.length = n then makeR ε (F (.obj c [] []) ds) else .bad := rfl
@[simp] theorem noPF_ap : noPF ε = .ok none ε := rfl
def partK : D → Env → Out (Option Int) := fun d ε1 => match d with
  | .int i => .ok (some i) ε1
  | _ => .bad
@[simp] theorem partF_ap {f : Env → Out D} : partF f ε = (f ε).bnd partK := by unfold partF partK; rfl
@[simp] theorem partK_ap {i : Int} : partK (.int i) ε = .ok (some i) ε := rfl
def slK3 (d : D) (lo : Option Int) : Option Int → Env → Out D := fun hi ε3 => Out.opt (sliceD d lo hi) ε3
def slK2 (fh : Env → Out (Option Int)) (d : D) : Option Int → Env → Out D := fun lo ε2 => (fh ε2).bnd (slK3 d lo)
def slK (fl fh : Env → Out (Option Int)) : D → Env → Out D := fun d ε1 => (fl ε1).bnd (slK2 fh d)
@[simp] theorem slF_ap {f : Env → Out D} {fl fh : Env → Out (Option Int)} : slF f fl fh ε = (f ε).bnd (slK fl fh) := rfl
@[simp] theorem slK_ap {fl fh : Env → Out (Option Int)} : slK fl fh d ε = (fl ε).bnd (slK2 fh d) := rfl
@[simp] theorem slK2_ap {fh : Env → Out (Option Int)} {lo : Option Int} : slK2 fh d lo ε = (fh ε).bnd (slK3 d lo) := rfl
@[simp] theorem slK3_ap {lo hi : Option Int} : slK3 d lo hi ε = Out.opt (sliceD d lo hi) ε := rfl
end
/-! ### loops -/
/-- what one round of a comprehension gives -/
def lc1 (vs : List Nat) (gf : D → Env → Option Env) (tf : Env → Out Bool) (ef : Env → Out D) (d : D) (ε : Env) : Option (Option D × Env) :=
  match gf d ε with
    | none => none
    | some ε1 => match tf ε1 with
      | .ok true ε2 => (match ef ε2 with
        | .ok y ε3 => some (some y, wipeE ε3 vs)
        | _ => none)
      | .ok false ε2 => some (none, wipeE ε2 vs)
      | _ => none
theorem lc_step {vs : List Nat} {gf : D → Env → Option Env} {tf : Env → Out Bool} {ef : Env → Out D} {d : D} {ds acc : List D} {ε ε' : Env} {o : Option D} (h : lc1 vs gf tf ef d ε = some (o, ε')) (hl : acc.length < 100000) :
    lcL vs gf tf ef (d :: ds) acc ε = lcL vs gf tf ef ds (acc ++ o.toList) ε' := by
  unfold lc1 at h
  rw [lcL]
  cases h1 : gf d ε with
  | none => rw [h1] at h; cases h
  | some ε1 =>
    rw [h1] at h
    simp only [] at h ⊢
    cases h2 : tf ε1 with
    | bad => rw [h2] at h; cases h
    | ex x e => rw [h2] at h; cases h
    | ok b e =>
      rw [h2] at h
      cases b with
      | false => simp only [Option.some.injEq, Prod.mk.injEq] at h ⊢; obtain ⟨rfl, rfl⟩ := h; simp
      | true =>
        simp only [] at h ⊢
        cases h3 : ef e with
        | bad => rw [h3] at h; cases h
        | ex x e => rw [h3] at h; cases h
        | ok y e3 =>
          rw [h3] at h
          simp only [Option.some.injEq, Prod.mk.injEq] at h ⊢
          obtain ⟨rfl, rfl⟩ := h
          simp [hl]
/-- a comprehension with an invariant -/
theorem lc_inv {vs : List Nat} {gf : D → Env → Option Env} {tf : Env → Out Bool} {ef : Env → Out D} (I : List D → List D → Env → Prop) :
    ∀ (ds pre acc : List D) (ε : Env), I pre acc ε → acc.length + ds.length ≤ 100000 → (∀ pre d acc ε, d ∈ ds → I pre acc ε → ∃ o ε', lc1 vs gf tf ef d ε = some (o, ε') ∧ I (pre ++ [d]) (acc ++ o.toList) ε') →
    ∃ acc' ε', lcL vs gf tf ef ds acc ε = .ok acc' ε' ∧ I (pre ++ ds) acc' ε'
  | [], pre, acc, ε, h, _, _ => ⟨acc, ε, rfl, by simpa using h⟩
  | d :: ds, pre, acc, ε, h, hl, hs => by
    obtain ⟨o, ε', h1, h2⟩ := hs pre d acc ε (by simp) h
    rw [lc_step h1 (by simp at hl; omega)]
    obtain ⟨acc', ε'', h3, h4⟩ := lc_inv I ds (pre ++ [d]) (acc ++ o.toList) ε' h2 (by cases o <;> simp at hl ⊢ <;> omega) (fun p x a e hx => hs p x a e (by simp [hx]))
    exact ⟨acc', ε'', h3, by simpa using h4⟩
/-- a comprehension that leaves the slots as they are -/
theorem lc_fm {vs : List Nat} {gf : D → Env → Option Env} {tf : Env → Out Bool} {ef : Env → Out D} {ε : Env} (f : D → Option D) : ∀ (ds acc : List D), acc.length + ds.length ≤ 100000 →
    (∀ d ∈ ds, lc1 vs gf tf ef d ε = some (f d, ε)) → lcL vs gf tf ef ds acc ε = .ok (acc ++ ds.filterMap f) ε
  | [], acc, _, _ => by simp [lcL]
  | d :: ds, acc, hl, h => by
    rw [lc_step (h d (by simp)) (by simp at hl; omega), lc_fm f ds _ (by cases f d <;> simp at hl ⊢ <;> omega) (fun x hx => h x (by simp [hx]))]
    cases e : f d <;> simp [List.filterMap_cons, e]
theorem lc_map {vs : List Nat} {gf : D → Env → Option Env} {tf : Env → Out Bool} {ef : Env → Out D} {ε : Env} (f : D → D) (ds : List D) (hl : ds.length ≤ 100000)
    (h : ∀ d ∈ ds, lc1 vs gf tf ef d ε = some (some (f d), ε)) : lcL vs gf tf ef ds [] ε = .ok (ds.map f) ε := by
  rw [lc_fm (fun d => some (f d)) ds [] (by simpa using hl) h]; simp
theorem lc_fmg {α : Type} {vs : List Nat} {gf : D → Env → Option Env} {tf : Env → Out Bool} {ef : Env → Out D} {ε : Env} (g : α → D) (f : α → Option D) (xs : List α) (hl : xs.length ≤ 100000)
    (h : ∀ x ∈ xs, lc1 vs gf tf ef (g x) ε = some (f x, ε)) : lcL vs gf tf ef (xs.map g) [] ε = .ok (xs.filterMap f) ε := by
  suffices ∀ (xs : List α) (acc : List D), acc.length + xs.length ≤ 100000 → (∀ x ∈ xs, lc1 vs gf tf ef (g x) ε = some (f x, ε)) → lcL vs gf tf ef (xs.map g) acc ε = .ok (acc ++ xs.filterMap f) ε by
    simpa using this xs [] (by simpa using hl) h
  intro xs
  induction xs with
  | nil => intro acc _ _; simp [lcL]
  | cons x xs ih =>
    intro acc hl h
    rw [List.map_cons, lc_step (h x (by simp)) (by simp at hl; omega), ih _ (by cases f x <;> simp at hl ⊢ <;> omega) (fun y hy => h y (by simp [hy]))]
    cases e : f x <;> simp [List.filterMap_cons, e]
theorem lc_mapg {α : Type} {vs : List Nat} {gf : D → Env → Option Env} {tf : Env → Out Bool} {ef : Env → Out D} {ε : Env} (g : α → D) (f : α → D) (xs : List α) (hl : xs.length ≤ 100000)
    (h : ∀ x ∈ xs, lc1 vs gf tf ef (g x) ε = some (some (f x), ε)) : lcL vs gf tf ef (xs.map g) [] ε = .ok (xs.map f) ε := by
  rw [lc_fmg g (fun x => some (f x)) xs hl h]; simp
theorem for_step {gf : D → Env → Option Env} {F : Env → SO} {d : D} {ds : List D} {ε ε1 ε2 : Env} (h : gf d ε = some ε1) (h2 : F ε1 = .nx ε2) : forF gf F (d :: ds) ε = forF gf F ds ε2 := by
  rw [forF, h]; simp only []; rw [h2]
/-- a loop with an invariant -/
theorem for_inv {gf : D → Env → Option Env} {F : Env → SO} (I : List D → Env → Prop) : ∀ (ds pre : List D) (ε : Env), I pre ε →
    (∀ p d r ε, ds = p ++ d :: r → I (pre ++ p) ε → ∃ ε1 ε2, gf d ε = some ε1 ∧ F ε1 = .nx ε2 ∧ I (pre ++ p ++ [d]) ε2) → ∃ ε', forF gf F ds ε = .nx ε' ∧ I (pre ++ ds) ε'
  | [], pre, ε, h, _ => ⟨ε, rfl, by simpa using h⟩
  | d :: ds, pre, ε, h, hs => by
    obtain ⟨ε1, ε2, h1, h2, h3⟩ := hs [] d ds ε rfl (by simpa using h)
    rw [for_step h1 h2]
    obtain ⟨ε', h4, h5⟩ := for_inv I ds (pre ++ [d]) ε2 (by simpa using h3) (fun p x r e he hi => by
      obtain ⟨a, b, c1, c2, c3⟩ := hs (d :: p) x r e (by simp [he]) (by simpa using hi)
      exact ⟨a, b, c1, c2, by simpa using c3⟩)
    exact ⟨ε', h4, by simpa using h5⟩
/-- a while loop with an invariant and a measure -/
theorem wh_inv {c : Env → Out Bool} {F : Env → SO} (I : Env → Prop) (m : Env → Nat) (hs : ∀ ε, I ε → ∃ b ε1, c ε = .ok b ε1 ∧ (b = true → ∃ ε2, F ε1 = .nx ε2 ∧ I ε2 ∧ m ε2 < m ε)) (Q : Env → Prop) (hq : ∀ ε ε1, I ε → c ε = .ok false ε1 → Q ε1) :
    ∀ (n : Nat) (ε : Env), I ε → m ε < n → ∃ ε', whF c F n ε = .nx ε' ∧ Q ε'
  | 0, _, _, h => by omega
  | n + 1, ε, hi, hm => by
    obtain ⟨b, ε1, h1, h2⟩ := hs ε hi
    cases b with
    | false => exact ⟨ε1, by rw [whF, h1]; rfl, hq ε ε1 hi h1⟩
    | true =>
      obtain ⟨ε2, h3, h4, h5⟩ := h2 rfl
      obtain ⟨ε', h6, h7⟩ := wh_inv I m hs Q hq n ε2 h4 (by omega)
      exact ⟨ε', by rw [whF, h1]; simp only [toS_ok, if_true]; rw [h3]; exact h6, h7⟩
@[simp] theorem bools_map {α : Type} (f : α → Bool) : ∀ xs : List α, bools (xs.map fun x => D.bl (f x)) = some (xs.map f)
  | [] => rfl
  | x :: xs => by simp [bools, bools_map f xs]
theorem allD_map {α : Type} (f : α → Bool) (xs : List α) : allD [.lst (xs.map fun x => D.bl (f x))] = some (.bl (xs.all f)) := by
  simp [allD, oneD]
@[simp] theorem allD_rep (n : Nat) : allD [.lst (List.replicate n (.bl true))] = some (.bl true) := by
  have h := allD_map (fun _ : Nat => true) (List.replicate n 0)
  simpa only [List.map_replicate, List.all_replicate, Bool.or_true, ite_self] using h
theorem allD_true {α : Type} (xs : List α) : allD [.lst (xs.map fun _ => .bl true)] = some (.bl true) := by
  rw [allD_map (fun _ => true)]; simp
theorem anyD_map {α : Type} (f : α → Bool) (xs : List α) : anyD [.lst (xs.map fun x => D.bl (f x))] = some (.bl (xs.any f)) := by
  simp [anyD, oneD]
end ML
end
section
set_option Elab.async false
set_option linter.all false
set_option maxRecDepth 100000
set_option autoImplicit false
namespace ML
open PySem (Str)
open PySem PySem.W L2
/-! ### typed data -/
structure Nice {α : Type} (f : α → D) (k : Nat) : Prop where
  eq : ∀ a b, PyData.eqv (toPy (f a)) (toPy (f b)) = true ↔ a = b
  lay : ∀ a, PyData.canLay0 (toPy (f a)) = true
  dep : ∀ a, PyData.depth (toPy (f a)) ≤ k
section
variable {α β : Type} {f : α → D} {g : β → D} {k m : Nat}
theorem Nice.mono (h : Nice f k) (hk : k ≤ m) : Nice f m := ⟨h.eq, h.lay, fun a => Nat.le_trans (h.dep a) hk⟩
theorem Nice.ok (h : Nice f k) (hk : k ≤ 64) (a : α) : okPy (f a) = true := by
  have := h.dep a
  simp only [okPy, SeqAt.shaped, h.lay, Bool.true_and, decide_eq_true_eq]; omega
theorem Nice.eqB [DecidableEq α] (h : Nice f k) (a b : α) : ML.eqB (f a) (f b) = decide (a = b) := by
  by_cases e : a = b
  · rw [decide_eq_true e]; exact (h.eq a b).2 e
  · rw [decide_eq_false e]
    cases hh : ML.eqB (f a) (f b) with
    | false => rfl
    | true => exact absurd ((h.eq a b).1 hh) e
theorem Nice.inj (h : Nice f k) {a b : α} (e : f a = f b) : a = b := (h.eq a b).1 (by rw [e]; exact (h.eq b b).2 rfl)
theorem Nice.eqD [DecidableEq α] (h : Nice f k) (hk : k ≤ 64) (a b : α) : ML.eqD (f a) (f b) = some (.bl (decide (a = b))) := by
  simp only [ML.eqD, h.ok hk, h.eqB, Bool.and_self, if_true]
theorem Nice.neD [DecidableEq α] (h : Nice f k) (hk : k ≤ 64) (a b : α) : ML.neD (f a) (f b) = some (.bl (!decide (a = b))) := by
  simp only [ML.neD, h.ok hk, h.eqB, Bool.and_self, if_true]
theorem Nice.layAll (h : Nice f k) : ∀ xs : List α, PyData.canLayAll0 (toPyL (xs.map f)) = true
  | [] => rfl
  | x :: xs => by simp only [List.map_cons, toPyL, PyData.canLayAll0, h.lay, h.layAll xs, Bool.and_self]
theorem Nice.depAll (h : Nice f k) : ∀ xs : List α, PyData.depthAll (toPyL (xs.map f)) ≤ k
  | [] => Nat.zero_le _
  | x :: xs => by
    simp only [List.map_cons, toPyL, PyData.depthAll]
    exact Nat.max_le.mpr ⟨h.dep x, h.depAll xs⟩
theorem Nice.eqAll (h : Nice f k) : ∀ xs ys : List α, PyData.eqvAll (toPyL (xs.map f)) (toPyL (ys.map f)) = true ↔ xs = ys
  | [], [] => by simp [toPyL, PyData.eqvAll]
  | [], _ :: _ => by simp [toPyL, PyData.eqvAll]
  | _ :: _, [] => by simp [toPyL, PyData.eqvAll]
  | x :: xs, y :: ys => by
    simp only [List.map_cons, toPyL, PyData.eqvAll, Bool.and_eq_true, h.eq, h.eqAll xs ys, List.cons.injEq]
theorem Nice.tup (h : Nice f k) : Nice (fun xs : List α => D.tup (xs.map f)) (k + 1) where
  eq := fun a b => by simp only [toPy, PyData.eqv]; exact h.eqAll a b
  lay := fun a => by simp only [toPy, PyData.canLay0]; exact h.layAll a
  dep := fun a => by simp only [toPy, PyData.depth]; exact Nat.succ_le_succ (h.depAll a)
theorem Nice.lst (h : Nice f k) : Nice (fun xs : List α => D.lst (xs.map f)) (k + 1) where
  eq := fun a b => by simp only [toPy, PyData.eqv]; exact h.eqAll a b
  lay := fun a => by simp only [toPy, PyData.canLay0]; exact h.layAll a
  dep := fun a => by simp only [toPy, PyData.depth]; exact Nat.succ_le_succ (h.depAll a)
theorem Nice.pair (h : Nice f k) (h' : Nice g k) : Nice (fun p : α × β => D.tup [f p.1, g p.2]) (k + 1) where
  eq := fun a b => by
    simp only [toPy, toPyL, PyData.eqv, PyData.eqvAll, Bool.and_true, Bool.and_eq_true, h.eq, h'.eq]
    exact ⟨fun e => Prod.ext e.1 e.2, fun e => by rw [e]; exact ⟨rfl, rfl⟩⟩
  lay := fun a => by simp only [toPy, toPyL, PyData.canLay0, PyData.canLayAll0, h.lay, h'.lay, Bool.and_self]
  dep := fun a => by
    simp only [toPy, toPyL, PyData.depth, PyData.depthAll]
    exact Nat.succ_le_succ (Nat.max_le.mpr ⟨h.dep _, Nat.max_le.mpr ⟨h'.dep _, Nat.zero_le _⟩⟩)
theorem nice_int : Nice D.int 0 where
  eq := fun a b => by simp [toPy, PyData.eqv]
  lay := fun a => by simp [toPy, PyData.canLay0]
  dep := fun a => by simp [toPy, PyData.depth]
theorem nice_bl : Nice D.bl 0 where
  eq := fun a b => by simp [toPy, PyData.eqv]
  lay := fun a => by simp [toPy, PyData.canLay0]
  dep := fun a => by simp [toPy, PyData.depth]
theorem Nice.comp {γ : Type} (h : Nice f k) (e : γ → α) (he : ∀ a b, e a = e b → a = b) : Nice (fun c => f (e c)) k where
  eq := fun a b => by rw [h.eq]; exact ⟨he a b, fun x => by rw [x]⟩
  lay := fun a => h.lay _
  dep := fun a => h.dep _
theorem Nice.any [DecidableEq α] (h : Nice f k) (a : α) : ∀ xs : List α, ((xs.map f).any fun y => ML.eqB y (f a)) = decide (a ∈ xs)
  | [] => by simp
  | x :: xs => by
    rw [List.map_cons, List.any_cons, h.any a xs, h.eqB]
    by_cases e : x = a
    · subst e; simp
    · have : ¬ a = x := fun q => e q.symm
      simp [e, this]
theorem Nice.inB [DecidableEq α] (h : Nice f k) (hk : k ≤ 63) (a : α) (xs : List α) : ML.inB (f a) (.lst (xs.map f)) = some (decide (a ∈ xs)) := by
  have h1 := h.ok (by omega) a
  have h2 : okPy (.lst (xs.map f)) = true := h.lst.ok (by omega) xs
  have e : ML.inB (f a) (.lst (xs.map f)) = if (okPy (f a) && okPy (.lst (xs.map f))) = true then some ((xs.map f).any fun y => ML.eqB y (f a)) else none := by
    cases f a <;> rfl
  rw [e, h1, h2, Bool.and_self, if_pos rfl, h.any]
theorem Nice.inD [DecidableEq α] (h : Nice f k) (hk : k ≤ 63) (a : α) (xs : List α) : ML.inD (f a) (.lst (xs.map f)) = some (.bl (decide (a ∈ xs))) := by
  simp [ML.inD, h.inB hk]
theorem Nice.notInD [DecidableEq α] (h : Nice f k) (hk : k ≤ 63) (a : α) (xs : List α) : ML.notInD (f a) (.lst (xs.map f)) = some (.bl (!decide (a ∈ xs))) := by
  simp [ML.notInD, h.inB hk]
theorem Nice.inBT [DecidableEq α] (h : Nice f k) (hk : k ≤ 63) (a : α) (xs : List α) : ML.inB (f a) (.tup (xs.map f)) = some (decide (a ∈ xs)) := by
  have h1 := h.ok (by omega) a
  have h2 : okPy (.tup (xs.map f)) = true := h.tup.ok (by omega) xs
  have e : ML.inB (f a) (.tup (xs.map f)) = if (flatD (f a) && (xs.map f).all flatD) = true then some ((xs.map f).any fun y => ML.eqB y (f a)) else if (okPy (f a) && okPy (.tup (xs.map f))) = true then some ((xs.map f).any fun y => ML.eqB y (f a)) else none := by
    cases f a <;> rfl
  rw [e, h1, h2, Bool.and_self, if_pos rfl, h.any]
  split <;> rfl
theorem Nice.inDT [DecidableEq α] (h : Nice f k) (hk : k ≤ 63) (a : α) (xs : List α) : ML.inD (f a) (.tup (xs.map f)) = some (.bl (decide (a ∈ xs))) := by
  simp [ML.inD, h.inBT hk]
theorem Nice.notInDT [DecidableEq α] (h : Nice f k) (hk : k ≤ 63) (a : α) (xs : List α) : ML.notInD (f a) (.tup (xs.map f)) = some (.bl (!decide (a ∈ xs))) := by
  simp [ML.notInD, h.inBT hk]
theorem Nice.ne_nil (h : Nice f k) (hk : k ≤ 63) (xs : List α) : ML.neD (.lst (xs.map f)) (.lst []) = some (.bl (!xs.isEmpty)) := by
  have h1 : okPy (.lst (xs.map f)) = true := h.lst.ok (by omega) xs
  have h2 : okPy (.lst []) = true := rfl
  simp only [ML.neD, h1, h2, Bool.and_self, if_true]
  cases xs <;> rfl
theorem Nice.eq_nil (h : Nice f k) (hk : k ≤ 63) (xs : List α) : ML.eqD (.lst (xs.map f)) (.lst []) = some (.bl xs.isEmpty) := by
  have h1 : okPy (.lst (xs.map f)) = true := h.lst.ok (by omega) xs
  have h2 : okPy (.lst []) = true := rfl
  simp only [ML.eqD, h1, h2, Bool.and_self, if_true]
  cases xs <;> rfl
/-! ### the order -/
structure NOrd {α : Type} (f : α → D) (lt : α → α → Bool) : Prop where
  al : ∀ a b, PySem.W.alike (toPy (f a)) (toPy (f b)) = true
  lt : ∀ a b, PySem.W.dataLt (toPy (f a)) (toPy (f b)) = lt a b
def leOf {α : Type} (lt : α → α → Bool) (a b : α) : Bool := !lt b a
theorem NOrd.le {lt : α → α → Bool} (h : NOrd f lt) (a b : α) : PySem.W.dataLe false toPy (f a) (f b) = leOf lt a b := by
  rw [PySem.W.dataLe_eq]
  show (!PySem.W.dataLt (toPy (f b)) (toPy (f a))) = _
  rw [h.lt]; rfl
theorem merge_map {α β : Type} {le : α → α → Bool} {le' : β → β → Bool} {f : α → β} (h : ∀ a b, le' (f a) (f b) = le a b) (xs : List α) : (xs.map f).mergeSort le' = (xs.mergeSort le).map f := by
  rw [List.map_mergeSort]
  intro a _ b _
  exact (h a b).symm
theorem NOrd.sortL {lt : α → α → Bool} (h : NOrd f lt) (xs : List α) : ML.sortL (xs.map f) = (xs.mergeSort (leOf lt)).map f := merge_map (fun a b => h.le a b) xs
/-- things that can be sorted: tuples with an item, or none of them tuples -/
def topK : D → Bool
  | .tup _ => true
  | _ => false
def topP : D → Bool
  | .tup (_ :: _) => true
  | _ => false
def topN : D → Bool
  | .int _ => true
  | .str _ => true
  | .bl _ => true
  | .lst _ => true
  | _ => false
theorem sortOk_of {lt : α → α → Bool} (h : NOrd f lt) (n : Nice f k) (hk : k ≤ 64) {xs : List α} (ht : (∀ x ∈ xs, topK (f x) = true) ∨ ∀ x ∈ xs, topN (f x) = true) : sortOk (xs.map f) = true := by
  unfold sortOk
  simp only [Bool.and_eq_true, Bool.or_eq_true, List.all_eq_true, List.mem_map, forall_exists_index, and_imp, forall_apply_eq_imp_iff₂]
  refine ⟨⟨fun a _ b _ => h.al a b, ?_⟩, fun a _ => n.ok hk a⟩
  rcases ht with ht | ht
  · exact .inl fun a ha => by have := ht a ha; unfold topK at this; exact this
  · exact .inr fun a ha => by have := ht a ha; unfold topN at this; exact this
theorem sortOk0_of {lt : α → α → Bool} (h : NOrd f lt) (n : Nice f k) (hk : k ≤ 64) {xs : List α} (ht : (∀ x ∈ xs, topP (f x) = true) ∨ ∀ x ∈ xs, topN (f x) = true) : sortOk0 (xs.map f) = true := by
  unfold sortOk0
  simp only [Bool.and_eq_true, Bool.or_eq_true, List.all_eq_true, List.mem_map, forall_exists_index, and_imp, forall_apply_eq_imp_iff₂]
  refine ⟨⟨fun a _ b _ => h.al a b, ?_⟩, fun a _ => n.ok hk a⟩
  rcases ht with ht | ht
  · exact .inl fun a ha => by have := ht a ha; unfold topP at this; exact this
  · exact .inr fun a ha => by have := ht a ha; unfold topN at this; exact this
theorem NOrd.sorted {lt : α → α → Bool} (h : NOrd f lt) (n : Nice f k) (hk : k ≤ 64) {xs : List α} (ht : (∀ x ∈ xs, topK (f x) = true) ∨ ∀ x ∈ xs, topN (f x) = true) : sortAD [.lst (xs.map f)] = some (.lst ((xs.mergeSort (leOf lt)).map f)) := by
  have e : sortAD [.lst (xs.map f)] = if sortOk (xs.map f) = true then some (.lst (ML.sortL (xs.map f))) else none := rfl
  rw [e, if_pos (sortOk_of h n hk ht), h.sortL]
end
end ML
end
section
set_option Elab.async false
set_option linter.all false
set_option maxRecDepth 100000
set_option autoImplicit false
namespace ML
open PySem (Str)
open PySem PySem.W L2
structure Lin {α : Type} (lt : α → α → Bool) : Prop where
  tr : ∀ a b c, leOf lt a b = true → leOf lt b c = true → leOf lt a c = true
  tot : ∀ a b, (leOf lt a b || leOf lt b a) = true
  an : ∀ a b, leOf lt a b = true → leOf lt b a = true → a = b
section
variable {α β : Type} {f : α → D} {g : β → D} {k m : Nat} {lt : α → α → Bool}
theorem toks_ne {x y : PyData} (h : PySem.W.alike x y = true) (e : PyData.eqv x y = false) : PySem.W.keyToks x ≠ PySem.W.keyToks y := fun q => by
  have h1 := (PySem.W.toks_eqv x y h).2 e [] [.inl 0]
  rw [q, PySem.W.lex_pre, PyProof.Rows.lex_irrefl] at h1
  exact absurd h1 (by decide +kernel)
theorem NOrd.lin (h : NOrd f lt) (n : Nice f k) : Lin lt where
  tr := fun a b c h1 h2 => by
    rw [← h.le] at h1 h2 ⊢
    exact (PySem.W.sortLe_total _ false _).trans _ _ _ h1 h2
  tot := fun a b => by
    rw [← h.le, ← h.le]
    rw [Bool.or_eq_true]
    exact (PySem.W.sortLe_total _ false _).total _ _
  an := fun a b h1 h2 => by
    simp only [leOf, Bool.not_eq_true'] at h1 h2
    rw [← h.lt] at h1 h2
    have e : PySem.W.keyToks (toPy (f a)) = PySem.W.keyToks (toPy (f b)) := PyProof.Rows.lex_total _ _ h2 h1
    refine (n.eq a b).1 ?_
    cases q : PyData.eqv (toPy (f a)) (toPy (f b)) with
    | true => rfl
    | false => exact absurd e (toks_ne (h.al a b) q)
theorem Lin.sorted (L : Lin lt) (xs : List α) : (xs.mergeSort (leOf lt)).Pairwise (fun a b => leOf lt a b = true) := List.pairwise_mergeSort (fun a b c h1 h2 => L.tr a b c h1 h2) (fun a b => L.tot a b) xs
theorem Lin.sort_eq (L : Lin lt) {xs ys : List α} (p : ys.Perm xs) (s : ys.Pairwise (fun a b => leOf lt a b = true)) : xs.mergeSort (leOf lt) = ys :=
  (List.Perm.eq_of_pairwise (le := fun a b => leOf lt a b = true) (fun a b _ _ h1 h2 => L.an a b h1 h2) s (L.sorted xs) (p.trans (List.mergeSort_perm _ _).symm)).symm
theorem Lin.sort_filter (L : Lin lt) (p : α → Bool) (xs : List α) : (xs.mergeSort (leOf lt)).filter p = (xs.filter p).mergeSort (leOf lt) :=
  (L.sort_eq ((List.mergeSort_perm _ _).filter p) ((L.sorted xs).filter p)).symm
theorem Lin.sort_self (L : Lin lt) {xs : List α} (s : xs.Pairwise (fun a b => leOf lt a b = true)) : xs.mergeSort (leOf lt) = xs := L.sort_eq (.refl _) s
theorem keysOf_map {F : List D → Rt} {f g : α → D} : ∀ {xs : List α}, (∀ x ∈ xs, F [f x] = .ret (g x)) → keysOf F (xs.map f) = some (xs.map g)
  | [], _ => rfl
  | x :: xs, h => by
    simp only [List.map_cons, keysOf, h x (by simp), keysOf_map (xs := xs) fun y hy => h y (by simp [hy]), Option.map_some]
theorem sortBy_map {f g : α → D} (h : NOrd g lt) (xs : List α) : sortByL (xs.map f) (xs.map g) = (xs.mergeSort (leOf lt)).map f := by
  have e : (xs.map f).zip (xs.map g) = xs.map fun x => (f x, g x) := by
    induction xs with
    | nil => rfl
    | cons x xs ih => simp [ih]
  unfold sortByL
  rw [e, merge_map (le := leOf lt) (le' := dataLe false fun b : D × D => toPy b.2) (f := fun x => (f x, g x)) (fun a b => h.le a b), List.map_map]
  rfl
theorem sortK_map {F : List D → Rt} {f g : α → D} (h : NOrd g lt) (n : Nice g k) (hk : k ≤ 64) {xs : List α} (hF : ∀ x ∈ xs, F [f x] = .ret (g x)) (ht : (∀ x ∈ xs, topP (g x) = true) ∨ ∀ x ∈ xs, topN (g x) = true) :
    sortK F (.lst (xs.map f)) = some (.lst ((xs.mergeSort (leOf lt)).map f)) := by
  simp only [sortK, keysOf_map hF, Option.bind_some, sortOk0_of h n hk ht, if_true, sortBy_map h]
def sortKK (F : List D → Rt) : D → Env → Out D := fun d ε1 => Out.opt (sortK F d) ε1
@[simp] theorem sortKF_ap {fa : Env → Out D} {F : List D → Rt} {ε : Env} : sortKF fa F ε = (fa ε).bnd (sortKK F) := rfl
@[simp] theorem sortKK_ap {F : List D → Rt} {ε : Env} {d : D} : sortKK F d ε = Out.opt (sortK F d) ε := rfl
theorem fm_if {γ : Type} (c : α → Bool) (e : α → γ) (xs : List α) : xs.filterMap (fun x => if c x = true then some (e x) else none) = (xs.filter c).map e := by
  induction xs with
  | nil => rfl
  | cons x xs ih => by_cases h : c x = true <;> simp [List.filterMap_cons, List.filter_cons, h, ih]
theorem lc_flt {vs : List Nat} {gf : D → Env → Option Env} {tf : Env → Out Bool} {ef : Env → Out D} {ε : Env} (g : α → D) (c : α → Bool) (e : α → D) (xs : List α) (hl : xs.length ≤ 100000)
    (h : ∀ x ∈ xs, lc1 vs gf tf ef (g x) ε = some (if c x = true then some (e x) else none, ε)) : lcL vs gf tf ef (xs.map g) [] ε = .ok ((xs.filter c).map e) ε := by
  rw [lc_fmg g _ xs hl h, fm_if]
theorem lc1_yes {vs : List Nat} {gf : D → Env → Option Env} {ef : Env → Out D} {d y : D} {ε ε1 ε2 : Env} (h1 : gf d ε = some ε1) (h2 : ef ε1 = .ok y ε2) : lc1 vs gf tYesF ef d ε = some (some y, wipeE ε2 vs) := by
  simp only [lc1, h1, tYesF, h2]
theorem lc1_tst {vs : List Nat} {gf : D → Env → Option Env} {tf : Env → Out Bool} {ef : Env → Out D} {d y : D} {b : Bool} {ε ε1 : Env} (h1 : gf d ε = some ε1) (h2 : tf ε1 = .ok b ε1) (h3 : b = true → ef ε1 = .ok y ε1) : lc1 vs gf tf ef d ε = some (if b = true then some y else none, wipeE ε1 vs) := by
  cases b with
  | true => simp only [lc1, h1, h2, h3 rfl, if_true]
  | false => simp only [lc1, h1, h2, Bool.false_eq_true, if_false]
/-- [e for x in xs] -/
theorem lc_mapY {vs : List Nat} {gf : D → Env → Option Env} {ef : Env → Out D} {ε : Env} (g f : α → D) (xs : List α) (hl : xs.length ≤ 100000)
    (h : ∀ x ∈ xs, ∃ ε1 ε2, gf (g x) ε = some ε1 ∧ wipeE ε2 vs = ε ∧ ef ε1 = .ok (f x) ε2) : lcL vs gf tYesF ef (xs.map g) [] ε = .ok (xs.map f) ε :=
  lc_mapg g f xs hl fun x hx => by
    obtain ⟨ε1, ε2, h1, h2, h3⟩ := h x hx
    rw [lc1_yes h1 h3, h2]
/-- [e for x in xs if c] -/
theorem lc_fltY {vs : List Nat} {gf : D → Env → Option Env} {tf : Env → Out Bool} {ef : Env → Out D} {ε : Env} (g : α → D) (c : α → Bool) (e : α → D) (xs : List α) (hl : xs.length ≤ 100000)
    (h : ∀ x ∈ xs, ∃ ε1, gf (g x) ε = some ε1 ∧ wipeE ε1 vs = ε ∧ tf ε1 = .ok (c x) ε1 ∧ (c x = true → ef ε1 = .ok (e x) ε1)) : lcL vs gf tf ef (xs.map g) [] ε = .ok ((xs.filter c).map e) ε :=
  lc_flt g c e xs hl fun x hx => by
    obtain ⟨ε1, h1, h2, h3, h4⟩ := h x hx
    rw [lc1_tst h1 h3 h4, h2]
/-! ### loops by place -/
theorem forL {gf : D → Env → Option Env} {F : Env → SO} (enc : α → D) : ∀ (xs : List α) (I : Nat → Env → Prop) (ε : Env), I 0 ε →
    (∀ (i : Nat) (hi : i < xs.length) (ε : Env), I i ε → ∃ ε1 ε2, gf (enc xs[i]) ε = some ε1 ∧ F ε1 = .nx ε2 ∧ I (i + 1) ε2) → ∃ ε', forF gf F (xs.map enc) ε = .nx ε' ∧ I xs.length ε'
  | [], I, ε, h0, _ => ⟨ε, rfl, h0⟩
  | x :: xs, I, ε, h0, hs => by
    obtain ⟨ε1, ε2, h1, h2, h3⟩ := hs 0 (by simp) ε h0
    rw [List.map_cons, for_step (by simpa using h1) h2]
    exact forL enc xs (fun i => I (i + 1)) ε2 h3 fun i hi e he => by
      obtain ⟨a, b, c1, c2, c3⟩ := hs (i + 1) (by simpa using hi) e he
      exact ⟨a, b, by simpa using c1, c2, c3⟩
end
end ML
namespace LW
open PySem (Str)
open L2 ML
end LW
end
section
set_option Elab.async false
set_option linter.all false
set_option maxRecDepth 100000
set_option autoImplicit false
namespace ML
open PySem (Str)
open PySem PySem.W L2
section
variable {α β : Type} {ε : Env} {d : D}
def isi2K (T U : String) : D → Env → Out D := fun d ε1 => match d with
  | .scr _ => .bad
  | .obj _ _ _ => .ok (.bl false) ε1
  | d => .ok (.bl (isiB d T || isiB d U)) ε1
@[simp] theorem isi2F_ap {f : Env → Out D} {T U : String} : isi2F f T U ε = (f ε).bnd (isi2K T U) := by unfold isi2F isi2K; rfl
def propK (c : Nat) (F : List D → Rt) : D → Env → Out D := fun d ε1 => match d with
  | .obj c' fs ds => if c' = c then callO (F [.obj c' fs ds]) ε1 else .bad
  | _ => .bad
@[simp] theorem propF_ap {f : Env → Out D} {c : Nat} {F : List D → Rt} : propF f c F ε = (f ε).bnd (propK c F) := by unfold propF propK; rfl
@[simp] theorem propK_ap {c : Nat} {F : List D → Rt} {fs : List Str} {ds : List D} : propK c F (.obj c fs ds) ε = callO (F [.obj c fs ds]) ε := by simp [propK]
@[simp] theorem min2D_ap {i j : Int} : min2D [.int i, .int j] = some (.int (if j < i then j else i)) := rfl
@[simp] theorem max2D_ap {i j : Int} : max2D [.int i, .int j] = some (.int (if i < j then j else i)) := rfl
@[simp] theorem absD_ap {i : Int} : absD [.int i] = some (.int (if i < 0 then -i else i)) := rfl
def rg1K : D → Env → Out (Int × Int) := fun d ε1 => match d with
  | .int n => .ok (0, n) ε1
  | _ => .bad
@[simp] theorem rg1F_ap {f : Env → Out D} : rg1F f ε = (f ε).bnd rg1K := by unfold rg1F rg1K; rfl
@[simp] theorem rg1K_ap {n : Int} : rg1K (.int n) ε = .ok (0, n) ε := rfl
def rg2K2 (d : D) : D → Env → Out (Int × Int) := fun e ε2 => match d, e with
  | .int m, .int n => .ok (m, n) ε2
  | _, _ => .bad
def rg2K (g : Env → Out D) : D → Env → Out (Int × Int) := fun d ε1 => (g ε1).bnd (rg2K2 d)
@[simp] theorem rg2F_ap {f g : Env → Out D} : rg2F f g ε = (f ε).bnd (rg2K g) := by unfold rg2F rg2K rg2K2; rfl
@[simp] theorem rg2K_ap {g : Env → Out D} : rg2K g d ε = (g ε).bnd (rg2K2 d) := rfl
@[simp] theorem rg2K2_ap {m n : Int} : rg2K2 (.int m) (.int n) ε = .ok (m, n) ε := rfl
def tupRgK : Int × Int → Env → Out D := fun p ε1 => if okRg p = true then .ok (.tup (rangeD p.1 (p.2 - p.1).toNat)) ε1 else .bad
@[simp] theorem tupRgF_ap {f : Env → Out (Int × Int)} : tupRgF f ε = (f ε).bnd tupRgK := by unfold tupRgF tupRgK; rfl
theorem tupRgK_nat {n : Nat} (h : n ≤ 100000) : tupRgK (0, (n : Int)) ε = .ok (.tup (rangeD 0 n)) ε := by
  have e : okRg (0, (n : Int)) = true := by
    simp only [okRg, Bool.and_eq_true, decide_eq_true_eq]; omega
  have e2 : ((n : Int) - 0).toNat = n := by omega
  simp only [tupRgK, e, if_true, e2]
def lstRgK : Int × Int → Env → Out Sl := fun p ε1 => if okRg p = true then .ok (.ow (.lst (rangeD p.1 (p.2 - p.1).toNat))) ε1 else .bad
@[simp] theorem lstRgM_ap {f : Env → Out (Int × Int)} : lstRgM f ε = (f ε).bnd lstRgK := by unfold lstRgM lstRgK; rfl
theorem lstRgK_nat {n : Nat} (h : n ≤ 100000) : lstRgK (0, (n : Int)) ε = .ok (.ow (.lst (rangeD 0 n))) ε := by
  have e : okRg (0, (n : Int)) = true := by
    simp only [okRg, Bool.and_eq_true, decide_eq_true_eq]; omega
  have e2 : ((n : Int) - 0).toNat = n := by omega
  simp only [lstRgK, e, if_true, e2]
def lc2K (vs vs1 : List Nat) (gf : D → Env → Option Env) (tf : Env → Out Bool) (fi1 : Env → Out (List D)) (gf1 : D → Env → Option Env) (tf1 : Env → Out Bool) (ef : Env → Out D) : List D → Env → Out Sl := fun ds ε1 => (lc2L vs vs1 gf tf fi1 gf1 tf1 ef ds [] (wipeE ε1 vs)).bnd mkL
@[simp] theorem lc2M_ap {vs vs1 : List Nat} {fi fi1 : Env → Out (List D)} {gf gf1 : D → Env → Option Env} {tf tf1 : Env → Out Bool} {ef : Env → Out D} : lc2M vs vs1 fi gf tf fi1 gf1 tf1 ef ε = (fi ε).bnd (lc2K vs vs1 gf tf fi1 gf1 tf1 ef) := rfl
@[simp] theorem lc2K_ap {vs vs1 : List Nat} {fi1 : Env → Out (List D)} {gf gf1 : D → Env → Option Env} {tf tf1 : Env → Out Bool} {ef : Env → Out D} {ds : List D} : lc2K vs vs1 gf tf fi1 gf1 tf1 ef ds ε = (lc2L vs vs1 gf tf fi1 gf1 tf1 ef ds [] (wipeE ε vs)).bnd mkL := rfl
end
section
variable {α β : Type}
theorem lc_fmA {vs : List Nat} {gf : D → Env → Option Env} {tf : Env → Out Bool} {ef : Env → Out D} {ε : Env} (g : α → D) (f : α → Option D) : ∀ (xs : List α) (acc : List D), acc.length + xs.length ≤ 100000 →
    (∀ x ∈ xs, lc1 vs gf tf ef (g x) ε = some (f x, ε)) → lcL vs gf tf ef (xs.map g) acc ε = .ok (acc ++ xs.filterMap f) ε
  | [], acc, _, _ => by simp [lcL]
  | x :: xs, acc, hl, h => by
    rw [List.map_cons, lc_step (h x (by simp)) (by simp at hl; omega), lc_fmA g f xs _ (by cases f x <;> simp at hl ⊢ <;> omega) (fun y hy => h y (by simp [hy]))]
    cases e : f x <;> simp [List.filterMap_cons, e]
theorem lc_mapA {vs : List Nat} {gf : D → Env → Option Env} {ef : Env → Out D} {ε : Env} (g f : α → D) (xs : List α) (acc : List D) (hl : acc.length + xs.length ≤ 100000)
    (h : ∀ x ∈ xs, ∃ ε1 ε2, gf (g x) ε = some ε1 ∧ wipeE ε2 vs = ε ∧ ef ε1 = .ok (f x) ε2) : lcL vs gf tYesF ef (xs.map g) acc ε = .ok (acc ++ xs.map f) ε := by
  rw [lc_fmA g (fun x => some (f x)) xs acc hl fun x hx => by
    obtain ⟨ε1, ε2, h1, h2, h3⟩ := h x hx
    rw [lc1_yes h1 h3, h2]]
  simp
theorem lc_fltA {vs : List Nat} {gf : D → Env → Option Env} {tf : Env → Out Bool} {ef : Env → Out D} {ε : Env} (g : α → D) (c : α → Bool) (e : α → D) (xs : List α) (acc : List D) (hl : acc.length + xs.length ≤ 100000)
    (h : ∀ x ∈ xs, ∃ ε1, gf (g x) ε = some ε1 ∧ wipeE ε1 vs = ε ∧ tf ε1 = .ok (c x) ε1 ∧ (c x = true → ef ε1 = .ok (e x) ε1)) : lcL vs gf tf ef (xs.map g) acc ε = .ok (acc ++ (xs.filter c).map e) ε := by
  rw [lc_fmA g (fun x => if c x = true then some (e x) else none) xs acc hl fun x hx => by
    obtain ⟨ε1, h1, h2, h3, h4⟩ := h x hx
    rw [lc1_tst h1 h3 h4, h2], fm_if]
theorem tYes_ok (ε : Env) : tYesF ε = .ok true ε := rfl
/-- two fors, no test at the first -/
theorem lc2_flat {vs vs1 : List Nat} {gf : D → Env → Option Env} {fi : Env → Out (List D)} {gf1 : D → Env → Option Env} {tf1 : Env → Out Bool} {ef : Env → Out D} {ε : Env} (g : α → D) (f : α → List D) : ∀ (xs : List α) (acc : List D), acc.length + (xs.flatMap f).length ≤ 100000 →
    (∀ x ∈ xs, ∃ ε1 ds1 ε2, gf (g x) ε = some ε1 ∧ fi ε1 = .ok ds1 ε2 ∧ ∀ acc : List D, acc.length + (f x).length ≤ 100000 → ∃ ε3, lcL vs1 gf1 tf1 ef ds1 acc (wipeE ε2 vs1) = .ok (acc ++ f x) ε3 ∧ wipeE ε3 vs = ε) → lc2L vs vs1 gf tYesF fi gf1 tf1 ef (xs.map g) acc ε = .ok (acc ++ xs.flatMap f) ε
  | [], acc, _, _ => by simp [lc2L]
  | x :: xs, acc, hl, h => by
    obtain ⟨ε1, ds1, ε2, h1, h2, h3⟩ := h x (by simp)
    simp only [List.flatMap_cons, List.length_append] at hl
    obtain ⟨ε3, h4, h5⟩ := h3 acc (by omega)
    rw [List.map_cons, lc2L]
    simp only [h1, tYes_ok, h2, h4, h5]
    have := lc2_flat (vs := vs) (vs1 := vs1) (gf := gf) (fi := fi) (gf1 := gf1) (tf1 := tf1) (ef := ef) (ε := ε) g f xs (acc ++ f x) (by rw [List.length_append]; omega) (fun y hy => h y (by simp [hy]))
    rw [List.flatMap_cons, ← List.append_assoc]
    exact this
/-- a loop that ends at the first thing with p -/
theorem for_find {gf : D → Env → Option Env} {F : Env → SO} (enc : α → D) (p : α → Bool) (res : α → D) (I : Env → Prop) : ∀ (xs : List α) (ε : Env), I ε →
    (∀ x ∈ xs, ∀ ε, I ε → ∃ ε1 ε2, gf (enc x) ε = some ε1 ∧ (p x = true → F ε1 = .rt (res x) ε2) ∧ (p x = false → F ε1 = .nx ε2 ∧ I ε2)) →
    (∃ x ε', xs.find? p = some x ∧ forF gf F (xs.map enc) ε = .rt (res x) ε') ∨ (xs.find? p = none ∧ ∃ ε', forF gf F (xs.map enc) ε = .nx ε' ∧ I ε')
  | [], ε, h, _ => .inr ⟨rfl, ε, rfl, h⟩
  | x :: xs, ε, h, hs => by
    obtain ⟨ε1, ε2, h1, h2, h3⟩ := hs x (by simp) ε h
    cases e : p x with
    | true =>
      refine .inl ⟨x, ε2, by simp [e], ?_⟩
      rw [List.map_cons, forF, h1]
      simp only [h2 e]
    | false =>
      obtain ⟨h4, h5⟩ := h3 e
      rw [List.map_cons, for_step h1 h4]
      rcases for_find enc p res I xs ε2 h5 (fun y hy => hs y (by simp [hy])) with ⟨y, ε', q1, q2⟩ | ⟨q1, ε', q2, q3⟩
      · exact .inl ⟨y, ε', by simp [e, q1], q2⟩
      · exact .inr ⟨by simp [e]; simpa using q1, ε', q2, q3⟩
/-! dicts with tuples as keys -/
@[simp] theorem dnewTM_ap {ε : Env} : dnewTM ε = .ok (.ow (.dt [] [])) ε := rfl
def done1TK2 (k : D) : D → Env → Out Sl := fun d ε2 => Out.opt ((toKeys k).map fun k => .ow (.dt [k] [d])) ε2
def done1TK (fv : Env → Out D) : D → Env → Out Sl := fun k ε1 => (fv ε1).bnd (done1TK2 k)
@[simp] theorem done1TM_ap {fk fv : Env → Out D} {ε : Env} : done1TM fk fv ε = (fk ε).bnd (done1TK fv) := rfl
@[simp] theorem done1TK_ap {fv : Env → Out D} {d : D} {ε : Env} : done1TK fv d ε = (fv ε).bnd (done1TK2 d) := rfl
@[simp] theorem done1TK2_ap {k d : D} {ε : Env} : done1TK2 k d ε = Out.opt ((toKeys k).map fun k => .ow (.dt [k] [d])) ε := rfl
def listP0 (ε : Env) : Option D → Out D
  | some z => .ok z ε
  | none => .bad
@[simp] theorem listP0_ap {ε : Env} {z : D} : listP0 ε (some z) = .ok z ε := rfl
@[simp] theorem listPF_ap {i : Nat} {ε : Env} : listPF i ε = listP0 ε ((lkAt ε[i]?).bind lstD) := rfl
@[simp] theorem dgetF_ap {f fk : Env → Out D} {ε : Env} : dgetF f fk ε = op2F f fk dgetD ε := rfl
def dgetP2 (k : D) (ε : Env) : Option Sl → Out D
  | some (.ow x) => Out.opt (dgetD x k) ε
  | _ => .bad
def dgetPK (i : Nat) : D → Env → Out D := fun k ε1 => dgetP2 k ε1 ε1[i]?
def dgetP0 (i : Nat) (fk : Env → Out D) (ε : Env) : Option Sl → Out D
  | some (.ow _) => (fk ε).bnd (dgetPK i)
  | _ => .bad
@[simp] theorem dgetP2_ap {k x : D} {ε : Env} : dgetP2 k ε (some (.ow x)) = Out.opt (dgetD x k) ε := rfl
@[simp] theorem dgetPK_ap {i : Nat} {k : D} {ε : Env} : dgetPK i k ε = dgetP2 k ε ε[i]? := rfl
@[simp] theorem dgetP0_ap {i : Nat} {fk : Env → Out D} {ε : Env} {x : D} : dgetP0 i fk ε (some (.ow x)) = (fk ε).bnd (dgetPK i) := rfl
@[simp] theorem dgetPF_ap {i : Nat} {fk : Env → Out D} {ε : Env} : dgetPF i fk ε = dgetP0 i fk ε ε[i]? := by
  unfold dgetPF dgetP0
  cases ε[i]? with
  | none => rfl
  | some s => cases s with
    | ow x =>
      simp only
      congr 1
      funext k ε1
      simp only [dgetPK, dgetP2, ownAt]
      cases ε1[i]? with
      | none => rfl
      | some s => cases s <;> rfl
    | _ => rfl
/-! star of a range, remove, list() as one's own -/
def starRgK2 (p : Int × Int) : List D → Env → Out (List D) := fun xs ε2 => .ok (rangeD p.1 (p.2 - p.1).toNat ++ xs) ε2
def starRgK (fr : Env → Out (List D)) : Int × Int → Env → Out (List D) := fun p ε1 => if okRg p = true then (fr ε1).bnd (starRgK2 p) else .bad
@[simp] theorem starRgF_ap {f : Env → Out (Int × Int)} {fr : Env → Out (List D)} {ε : Env} : starRgF f fr ε = (f ε).bnd (starRgK fr) := rfl
@[simp] theorem starRgK2_ap {p : Int × Int} {xs : List D} {ε : Env} : starRgK2 p xs ε = .ok (rangeD p.1 (p.2 - p.1).toNat ++ xs) ε := rfl
theorem starRgK_nat {i j : Nat} (hi : i ≤ 100000) (hj : j ≤ 100000) {fr : Env → Out (List D)} {ε : Env} : starRgK fr ((i : Int), (j : Int)) ε = (fr ε).bnd (starRgK2 (i, j)) := by
  have : okRg ((i : Int), (j : Int)) = true := by
    simp only [okRg, Bool.and_eq_true, decide_eq_true_eq]
    omega
  rw [starRgK, if_pos this]
def remO (i : Nat) (ε : Env) : Option (List D) → SO
  | some ds => .nx (ε.set i (.ow (.lst ds)))
  | none => .bad
def remK (i : Nat) : D → Env → SO := fun d ε1 => remO i ε1 ((oL ε1[i]?).bind fun ds => remD ds d)
def rem0 (i : Nat) (f : Env → Out D) (ε : Env) : Option (List D) → SO
  | none => .bad
  | some _ => (f ε).toS (remK i)
@[simp] theorem remO_ap {i : Nat} {ε : Env} {ds : List D} : remO i ε (some ds) = .nx (ε.set i (.ow (.lst ds))) := rfl
@[simp] theorem remK_ap {i : Nat} {d : D} {ε : Env} : remK i d ε = remO i ε ((oL ε[i]?).bind fun ds => remD ds d) := rfl
@[simp] theorem rem0_ap {i : Nat} {f : Env → Out D} {ε : Env} {ds : List D} : rem0 i f ε (some ds) = (f ε).toS (remK i) := rfl
@[simp] theorem remF_ap {i : Nat} {f : Env → Out D} {ε : Env} : remF i f ε = rem0 i f ε (oL ε[i]?) := by
  unfold remF
  rw [ownL_ap]
  cases oL ε[i]? with
  | none => rfl
  | some d =>
    show (f ε).toS _ = (f ε).toS _
    congr 1
def listK : List D → Env → Out Sl := fun ds ε1 => ownL1 (listD ds) ε1
@[simp] theorem listM_ap {fa : Env → Out (List D)} {ε : Env} : listM fa ε = (fa ε).bnd listK := rfl
@[simp] theorem listK_ap {ds : List D} {ε : Env} : listK ds ε = ownL1 (listD ds) ε := rfl
@[simp] theorem ownL1_ap {xs : List D} {ε : Env} : ownL1 (some (.lst xs)) ε = .ok (.ow (.lst xs)) ε := rfl
end
end ML
end
section
set_option Elab.async false
set_option linter.all false
set_option maxRecDepth 100000
set_option autoImplicit false
namespace ML
open PySem (Str PyData argBest)
open L2
/-! ### rows of things, by the first that differs -/
def lexB {α : Type} [DecidableEq α] (lt : α → α → Bool) : List α → List α → Bool
  | [], [] => false
  | [], _ :: _ => true
  | _ :: _, [] => false
  | a :: as, b :: bs => if a = b then lexB lt as bs else lt a b
section
variable {α : Type} [DecidableEq α] {f : α → D} {lt : α → α → Bool} {k : Nat}
theorem NOrd.alikeAll (h : NOrd f lt) : ∀ as bs : List α, PySem.W.alikeAll (toPyL (as.map f)) (toPyL (bs.map f)) = true
  | [], [] => by simp [toPyL, PySem.W.alikeAll]
  | [], _ :: _ => by simp [toPyL, PySem.W.alikeAll]
  | _ :: _, [] => by simp [toPyL, PySem.W.alikeAll]
  | a :: as, b :: bs => by simp only [List.map_cons, toPyL, PySem.W.alikeAll, h.al, h.alikeAll as bs, Bool.and_self]
theorem NOrd.rows (h : NOrd f lt) (n : Nice f k) : ∀ as bs : List α, PyProof.Rows.lexLt PyProof.Rows.itemOrd (PySem.W.keyToksAll (toPyL (as.map f))) (PySem.W.keyToksAll (toPyL (bs.map f))) = lexB lt as bs
  | [], [] => by
    rw [← PySem.W.firstLt_toks _ _ (h.alikeAll [] [])]
    rfl
  | [], b :: bs => by
    rw [← PySem.W.firstLt_toks _ _ (h.alikeAll [] (b :: bs))]
    simp [toPyL, PySem.SeqAt.firstLt, lexB]
  | a :: as, [] => by
    rw [← PySem.W.firstLt_toks _ _ (h.alikeAll (a :: as) [])]
    simp [toPyL, PySem.SeqAt.firstLt, lexB]
  | a :: as, b :: bs => by
    simp only [List.map_cons, toPyL]
    rw [PySem.W.dataLt_cons (h.al a b), h.lt, h.rows n as bs, lexB]
    by_cases e : a = b
    · rw [if_pos e, if_pos ((n.eq a b).2 e)]
    · rw [if_neg e, if_neg (fun q => e ((n.eq a b).1 q))]
theorem NOrd.lst (h : NOrd f lt) (n : Nice f k) : NOrd (fun xs : List α => D.lst (xs.map f)) (lexB lt) where
  al := fun a b => by simp only [toPy, PySem.W.alike]; exact h.alikeAll a b
  lt := fun a b => by simp only [toPy]; rw [PySem.W.dataLt_list]; exact h.rows n a b
theorem lexB_at {as bs : List α} (hl : as.length = bs.length) (hne : as ≠ bs) : ∃ i, ∃ h : i < as.length, ∃ h' : i < bs.length, as.take i = bs.take i ∧ as[i] ≠ bs[i] ∧ lexB lt as bs = lt as[i] bs[i] := by
  induction as generalizing bs with
  | nil =>
    cases bs with
    | nil => exact absurd rfl hne
    | cons _ _ => cases hl
  | cons a as ih =>
    cases bs with
    | nil => cases hl
    | cons b bs =>
      by_cases e : a = b
      · subst e
        obtain ⟨i, h, h', h1, h2, h3⟩ := ih (bs := bs) (by simpa using hl) (fun q => hne (by rw [q]))
        exact ⟨i + 1, by simpa using h, by simpa using h', by simp [h1], by simpa using h2, by simp [lexB, h3]⟩
      · exact ⟨0, by simp, by simp, rfl, by simpa using e, by simp [lexB, e]⟩
/-- min(xs) of data in an order: the one that is less than all others -/
theorem argBest_min {lt : α → α → Bool} {xs : List α} (bt : Nat → Nat → Bool) (hb : ∀ i j (hi : i < xs.length) (hj : j < xs.length), bt i j = lt xs[i] xs[j]) {R : α} {r : Nat} (hr : r < xs.length) (er : xs[r] = R)
    (h1 : ∀ x ∈ xs, x ≠ R → lt R x = true) (h2 : ∀ x ∈ xs, lt x R = false) : ∀ n, (n < xs.length → argBest bt n ≤ n) ∧ (r ≤ n → (h : n < xs.length) → xs[argBest bt n]? = some R)
  | 0 => ⟨fun _ => Nat.le_refl _, fun h hn => by
    have : r = 0 := by omega
    subst this
    show xs[0]? = _
    rw [List.getElem?_eq_getElem hn, er]⟩
  | n + 1 => by
    obtain ⟨i1, i2⟩ := argBest_min bt hb hr er h1 h2 n
    have hle : n + 1 < xs.length → argBest bt (n + 1) ≤ n + 1 := fun hn => by
      have := i1 (by omega)
      rw [argBest]
      split <;> omega
    refine ⟨hle, fun h hn => ?_⟩
    have hb1 := i1 (by omega)
    rw [argBest]
    by_cases e : r ≤ n
    · have q := i2 e (by omega)
      have hl : argBest bt n < xs.length := by omega
      rw [List.getElem?_eq_getElem hl] at q
      have q := Option.some.inj q
      have : bt (n + 1) (argBest bt n) = false := by rw [hb _ _ hn hl, q]; exact h2 _ (List.getElem_mem hn)
      rw [this]
      simp only [Bool.false_eq_true, if_false]
      rw [List.getElem?_eq_getElem hl, q]
    · have : r = n + 1 := by omega
      subst this
      have hl : argBest bt n < xs.length := by omega
      by_cases c : xs[argBest bt n] = R
      · have : bt (n + 1) (argBest bt n) = false := by rw [hb _ _ hn hl, c]; exact h2 _ (List.getElem_mem hn)
        rw [this]
        simp only [Bool.false_eq_true, if_false]
        rw [List.getElem?_eq_getElem hl, c]
      · have : bt (n + 1) (argBest bt n) = true := by rw [hb _ _ hn hl, er]; exact h1 _ (List.getElem_mem hl) c
        rw [this]
        simp only [if_true]
        rw [List.getElem?_eq_getElem hn, er]
theorem toPyL_get (xs : List α) (i : Nat) (hi : i < xs.length) : (toPyL (xs.map f)).getD i .none = toPy (f xs[i]) := by
  induction xs generalizing i with
  | nil => cases hi
  | cons x xs ih =>
    cases i with
    | zero => simp [toPyL]
    | succ i =>
      have := ih i (by simpa using hi)
      simpa [toPyL] using this
theorem NOrd.min (h : NOrd f lt) (n : Nice f k) (hk : k ≤ 64) {xs : List α} (ht : (∀ x ∈ xs, topK (f x) = true) ∨ ∀ x ∈ xs, topN (f x) = true) {R : α} (hR : R ∈ xs) (h1 : ∀ x ∈ xs, x ≠ R → lt R x = true) : minD [.lst (xs.map f)] = some (f R) := by
  have L := h.lin n
  obtain ⟨r, hr, er⟩ := List.mem_iff_getElem.1 hR
  have hs := sortOk_of h n hk ht
  have h2 : ∀ x ∈ xs, lt x R = false := fun x hx => by
    by_cases e : x = R
    · subst e
      have := L.tot x x
      simp only [Bool.or_self, leOf, Bool.not_eq_true'] at this
      exact this
    · have a := h1 x hx e
      have := L.an x R
      cases q : lt x R with
      | false => rfl
      | true =>
        have t1 := L.tot x R
        simp [leOf, a, q] at t1
  have hl : 0 < xs.length := by omega
  obtain ⟨-, a2⟩ := argBest_min (lt := lt) (xs := xs) (MH.ltAt (toPyL (xs.map f))) (fun i j hi hj => by rw [MH.ltAt, toPyL_get xs i hi, toPyL_get xs j hj, h.lt]) hr er h1 h2 (xs.length - 1)
  have a3 := a2 (by omega) (by omega)
  show (if sortOk (xs.map f) = true ∧ 0 < (xs.map f).length then minL (xs.map f) else none) = _
  rw [if_pos ⟨hs, by simpa using hl⟩, minL, List.length_map, List.getElem?_map, a3]
  rfl
end
end ML
end
section
set_option Elab.async false
set_option linter.all false
set_option maxRecDepth 100000
set_option autoImplicit false
namespace ML
open PySem (Str PyData)
open L2
section
variable {ε : Env}
/-! ### rules for xs.extend(..), a loop over one's own list, lists of lists -/
def extK2 (i : Nat) (es : List D) (ε : Env) : Option (List D) → SO
  | some ds => if ds.length + es.length ≤ 100000 then .nx (ε.set i (.ow (.lst (ds ++ es)))) else .bad
  | none => .bad
@[simp] theorem extK2_some {i : Nat} {es ds : List D} : extK2 i es ε (some ds) = if ds.length + es.length ≤ 100000 then .nx (ε.set i (.ow (.lst (ds ++ es)))) else .bad := rfl
def extK (i : Nat) : D → Env → SO := fun d ε => match d with
  | .lst es => extK2 i es ε (oL ε[i]?)
  | _ => .bad
@[simp] theorem extK_lst {i : Nat} {es : List D} : extK i (.lst es) ε = extK2 i es ε (oL ε[i]?) := rfl
def ext0 (i : Nat) (f : Env → Out D) (ε : Env) : Option (List D) → SO
  | none => .bad
  | some _ => (f ε).toS (extK i)
@[simp] theorem ext0_some {i : Nat} {f : Env → Out D} {ds : List D} : ext0 i f ε (some ds) = (f ε).toS (extK i) := rfl
@[simp] theorem extF_ap {i : Nat} {f : Env → Out D} : extF i f ε = ext0 i f ε (oL ε[i]?) := by
  unfold extF
  rw [ownL_ap]
  cases oL ε[i]? with
  | none => rfl
  | some ds =>
    show (f ε).toS _ = (f ε).toS _
    cases f ε with
    | ok d ε1 =>
      simp only [Out.toS]
      rw [ownL_ap]
      cases d with
      | lst es => rw [extK_lst]; cases oL ε1[i]? <;> rfl
      | _ => rfl
    | ex x ε1 => rfl
    | bad => rfl
def forO0 (i : Nat) (gf : D → Env → Option Env) (F : Env → SO) (ε : Env) : Option (List D) → SO
  | some ds => SO.back i (.lst ds) (forF gf F ds (ε.set i .no))
  | none => .bad
@[simp] theorem forO0_some {i : Nat} {gf : D → Env → Option Env} {F : Env → SO} {ds : List D} : forO0 i gf F ε (some ds) = SO.back i (.lst ds) (forF gf F ds (ε.set i .no)) := rfl
theorem forO_ap {i : Nat} {gf : D → Env → Option Env} {F : Env → SO} : forO i gf F ε = forO0 i gf F ε (oL ε[i]?) := by
  unfold forO
  rw [ownL_ap]
  cases oL ε[i]? <;> rfl
theorem nest_ap {i j r c : Nat} {fi fl : Env → Out (List D)} {x : D} {ε ε1 ε2 : Env} {ds ls : List D} {rs rs' : List (List D)} (h1 : fi ε = .ok ds ε1) (hl : i < ε1.length ∧ j < ε1.length ∧ r < ε1.length ∧ c < ε1.length ∧ ds.length < 100000) (h2 : rowsD ds = some rs)
    (h3 : fl (ε1.set i .no) = .ok ls ε2) (h4 : nputsD x ls rs = some rs') : nestS i j r c fi fl x ε = .nx ((wipeE ε2 [r, c]).set i (.ow (.lst (rs'.map D.lst)))) := by
  unfold nestS
  simp only [h1, Out.toS, if_pos hl, h2, h3, h4]
end
end ML
end
section
set_option Elab.async false
set_option linter.all false
set_option maxRecDepth 100000
set_option maxHeartbeats 4000000
set_option autoImplicit false
namespace LW
open PySem PySem.Spec PyProof.Rows L2 ML
/-! ### the text by places -/
def top (i : Nat) : Stmt := PySem.Challenge.pw_wovenframes_k67_whole_what_comes_along.main.body.getD i (.Pass ⟨0, 0, 0, 0⟩)
abbrev s_Board___len__ : Stmt := inClass (top 12) 4
abbrev s__law_taken : Stmt := top 34
abbrev s__law_cells : Stmt := top 35
abbrev s__law_steps : Stmt := top 37
abbrev s__law_all_lots : Stmt := top 44
abbrev s__law_is_closed : Stmt := top 45
abbrev s__law_many : Stmt := top 36
abbrev s__law_lots : Stmt := top 46
abbrev s__law_led : Stmt := top 39
abbrev s__law_lost : Stmt := top 43
abbrev s_is_line : Stmt := top 11
abbrev s_Board___init__ : Stmt := inClass (top 12) 0
abbrev s__law_without : Stmt := top 40
abbrev s_Board_cells : Stmt := inClass (top 12) 1
abbrev s_need_board : Stmt := top 13
abbrev s_led_cells : Stmt := top 25
abbrev s_is_cell : Stmt := top 27
abbrev s_need_break : Stmt := top 26
abbrev s_is_from : Stmt := top 10
abbrev s_is_thread : Stmt := top 14
abbrev s_need_thread : Stmt := top 15
abbrev s_is_lot : Stmt := top 20
abbrev s_need_lot : Stmt := top 21
abbrev s_all_steps : Stmt := top 16
abbrev s_leads_of : Stmt := top 18
abbrev s_least_closed : Stmt := top 22
abbrev s_without : Stmt := top 28
abbrev s_lifted : Stmt := top 30
abbrev s_comes_along : Stmt := top 31
abbrev s_sight_of : Stmt := top 32
abbrev s_broken : Stmt := top 29
abbrev s_law : Stmt := top 47
abbrev uv (K : PySem.W.Frag) (C : Addr) : Uv := ⟨K, fun _ => C, fun _ => 0⟩
/-- what is known of the text behind the top -/
structure Txt (K : PySem.W.Frag) (mg : Str → Option Value) (C : Addr) : Prop where
  d_Board___len__ : ∃ f fd, FunD K "__len__" "Board.__len__" (defArgs s_Board___len__) (defBody s_Board___len__) (defScope s_Board___len__) [] [] f fd ∧ (fun f => Meth K C "__len__" f) f
  d__law_taken : ∃ f fd, FunD K "_law_taken" "_law_taken" (defArgs s__law_taken) (defBody s__law_taken) (defScope s__law_taken) [] [] f fd ∧ (fun f => mg "_law_taken" = some (.ref f)) f
  d__law_cells : ∃ f fd, FunD K "_law_cells" "_law_cells" (defArgs s__law_cells) (defBody s__law_cells) (defScope s__law_cells) [] [] f fd ∧ (fun f => mg "_law_cells" = some (.ref f)) f
  d__law_steps : ∃ f fd, FunD K "_law_steps" "_law_steps" (defArgs s__law_steps) (defBody s__law_steps) (defScope s__law_steps) [] [] f fd ∧ (fun f => mg "_law_steps" = some (.ref f)) f
  d__law_all_lots : ∃ f fd, FunD K "_law_all_lots" "_law_all_lots" (defArgs s__law_all_lots) (defBody s__law_all_lots) (defScope s__law_all_lots) [] [] f fd ∧ (fun f => mg "_law_all_lots" = some (.ref f)) f
  d__law_is_closed : ∃ f fd, FunD K "_law_is_closed" "_law_is_closed" (defArgs s__law_is_closed) (defBody s__law_is_closed) (defScope s__law_is_closed) [] [] f fd ∧ (fun f => mg "_law_is_closed" = some (.ref f)) f
  d__law_many : ∃ f fd, FunD K "_law_many" "_law_many" (defArgs s__law_many) (defBody s__law_many) (defScope s__law_many) [] [] f fd ∧ (fun f => mg "_law_many" = some (.ref f)) f
  d__law_lots : ∃ f fd, FunD K "_law_lots" "_law_lots" (defArgs s__law_lots) (defBody s__law_lots) (defScope s__law_lots) [] [] f fd ∧ (fun f => mg "_law_lots" = some (.ref f)) f
  d__law_led : ∃ f fd, FunD K "_law_led" "_law_led" (defArgs s__law_led) (defBody s__law_led) (defScope s__law_led) [] [] f fd ∧ (fun f => mg "_law_led" = some (.ref f)) f
  d__law_lost : ∃ f fd, FunD K "_law_lost" "_law_lost" (defArgs s__law_lost) (defBody s__law_lost) (defScope s__law_lost) [] [] f fd ∧ (fun f => mg "_law_lost" = some (.ref f)) f
  d_is_line : ∃ f fd, FunD K "is_line" "is_line" (defArgs s_is_line) (defBody s_is_line) (defScope s_is_line) [] [] f fd ∧ (fun f => mg "is_line" = some (.ref f)) f
  d_Board___init__ : ∃ f fd, FunD K "__init__" "Board.__init__" (defArgs s_Board___init__) (defBody s_Board___init__) (defScope s_Board___init__) [] [] f fd ∧ (fun f => Mk K C f) f
  d__law_without : ∃ f fd, FunD K "_law_without" "_law_without" (defArgs s__law_without) (defBody s__law_without) (defScope s__law_without) [] [] f fd ∧ (fun f => mg "_law_without" = some (.ref f)) f
  d_Board_cells : ∃ f fd, FunD K "cells" "Board.cells" (defArgs s_Board_cells) (defBody s_Board_cells) (defScope s_Board_cells) [] [] f fd ∧ (fun f => ∃ p, PropOf K C "cells" p f) f
  d_need_board : ∃ f fd, FunD K "need_board" "need_board" (defArgs s_need_board) (defBody s_need_board) (defScope s_need_board) [] [] f fd ∧ (fun f => mg "need_board" = some (.ref f)) f
  d_led_cells : ∃ f fd, FunD K "led_cells" "led_cells" (defArgs s_led_cells) (defBody s_led_cells) (defScope s_led_cells) [] [] f fd ∧ (fun f => mg "led_cells" = some (.ref f)) f
  d_is_cell : ∃ f fd, FunD K "is_cell" "is_cell" (defArgs s_is_cell) (defBody s_is_cell) (defScope s_is_cell) [] [] f fd ∧ (fun f => mg "is_cell" = some (.ref f)) f
  d_need_break : ∃ f fd, FunD K "need_break" "need_break" (defArgs s_need_break) (defBody s_need_break) (defScope s_need_break) [] [] f fd ∧ (fun f => mg "need_break" = some (.ref f)) f
  d_is_from : ∃ f fd, FunD K "is_from" "is_from" (defArgs s_is_from) (defBody s_is_from) (defScope s_is_from) [] [] f fd ∧ (fun f => mg "is_from" = some (.ref f)) f
  d_is_thread : ∃ f fd, FunD K "is_thread" "is_thread" (defArgs s_is_thread) (defBody s_is_thread) (defScope s_is_thread) [] [] f fd ∧ (fun f => mg "is_thread" = some (.ref f)) f
  d_need_thread : ∃ f fd, FunD K "need_thread" "need_thread" (defArgs s_need_thread) (defBody s_need_thread) (defScope s_need_thread) [] [] f fd ∧ (fun f => mg "need_thread" = some (.ref f)) f
  d_is_lot : ∃ f fd, FunD K "is_lot" "is_lot" (defArgs s_is_lot) (defBody s_is_lot) (defScope s_is_lot) [] [] f fd ∧ (fun f => mg "is_lot" = some (.ref f)) f
  d_need_lot : ∃ f fd, FunD K "need_lot" "need_lot" (defArgs s_need_lot) (defBody s_need_lot) (defScope s_need_lot) [] [] f fd ∧ (fun f => mg "need_lot" = some (.ref f)) f
  d_all_steps : ∃ f fd, FunD K "all_steps" "all_steps" (defArgs s_all_steps) (defBody s_all_steps) (defScope s_all_steps) [] [] f fd ∧ (fun f => mg "all_steps" = some (.ref f)) f
  d_leads_of : ∃ f fd, FunD K "leads_of" "leads_of" (defArgs s_leads_of) (defBody s_leads_of) (defScope s_leads_of) [] [] f fd ∧ (fun f => mg "leads_of" = some (.ref f)) f
  d_least_closed : ∃ f fd, FunD K "least_closed" "least_closed" (defArgs s_least_closed) (defBody s_least_closed) (defScope s_least_closed) [] [] f fd ∧ (fun f => mg "least_closed" = some (.ref f)) f
  d_without : ∃ f fd, FunD K "without" "without" (defArgs s_without) (defBody s_without) (defScope s_without) [] [] f fd ∧ (fun f => mg "without" = some (.ref f)) f
  d_lifted : ∃ f fd, FunD K "lifted" "lifted" (defArgs s_lifted) (defBody s_lifted) (defScope s_lifted) [] [] f fd ∧ (fun f => mg "lifted" = some (.ref f)) f
  d_comes_along : ∃ f fd, FunD K "comes_along" "comes_along" (defArgs s_comes_along) (defBody s_comes_along) (defScope s_comes_along) [] [] f fd ∧ (fun f => mg "comes_along" = some (.ref f)) f
  d_sight_of : ∃ f fd, FunD K "sight_of" "sight_of" (defArgs s_sight_of) (defBody s_sight_of) (defScope s_sight_of) [] [] f fd ∧ (fun f => mg "sight_of" = some (.ref f)) f
  d_broken : ∃ f fd, FunD K "broken" "broken" (defArgs s_broken) (defBody s_broken) (defScope s_broken) [] [] f fd ∧ (fun f => mg "broken" = some (.ref f)) f
  d_law : ∃ f fd, FunD K "law" "law" (defArgs s_law) (defBody s_law) (defScope s_law) [] [] f fd ∧ (fun f => mg "law" = some (.ref f)) f
  n_all : mg "all" = none
  n_any : mg "any" = none
  n_bool : mg "bool" = none
  n_enumerate : mg "enumerate" = none
  n_int : mg "int" = none
  n_isinstance : mg "isinstance" = none
  n_len : mg "len" = none
  n_list : mg "list" = none
  n_range : mg "range" = none
  n_set : mg "set" = none
  n_sorted : mg "sorted" = none
  n_str : mg "str" = none
  n_tuple : mg "tuple" = none
  c_EMPTY : ∃ t, mg "EMPTY" = some (.str "." t)
  c_MOST_LINES : ∃ t, mg "MOST_LINES" = some (.int 5 t)
  c_SIGNS : ∃ t, mg "SIGNS" = some (.str ".<>x" t)
  mg_Board : mg "Board" = some (.ref C)
  cls_Board : Cls K C
  ok_Board : ClsOk K C
  na_Board_table : NoAttr K C "table"
section
variable {P : Program} {w : World} {K : PySem.W.Frag} {mg : Str → Option Value} {base : Heap} {C : Addr}
theorem sc_Board___len__ : FnScope ["self"] ["self"] (defScope s_Board___len__) := ⟨rfl, rfl, rfl, by decide +kernel, rfl, by decide +kernel, by decide +kernel⟩
def B_Board___len__ : ML.Env → SO :=
  (retF (cbF (consF (frzF (lstM (starF (fldF (varF 0) 0 "table") (starF (op2F (fldF (varF 0) 0 "table") (cF (.int 0)) ixD) nilF)))) nilF) lenD))
def F_Board___len__ : List D → Rt := runF 1 B_Board___len__
theorem okd_Board___len__ (T : Txt K mg C) {f : Addr} {fd : FuncData} (F0 : FunD K "__len__" "Board.__len__" (defArgs s_Board___len__) (defBody s_Board___len__) (defScope s_Board___len__) [] [] f fd) : FnOk P w K mg base CX0 1 f fd ["self"] (SpF (uv K C) 1 F_Board___len__) := by
  refine okF (u := uv K C) rfl F0 sc_Board___len__ rfl fun cdv A outer s H E hr => ⟨_, (pss_one (ps_ret (pe_callB (r := MH.rLen0 K) call_len rfl T.n_len (by decide +kernel) (pa_cons (pe_lst (MH.pa_starK (K := K) rfl rfl (MH.pe_fldK (K := K) rfl (pv 0) rfl) (MH.pa_starK (K := K) rfl rfl (pe_ix (r := rIx K) ix_seq (MH.pe_fldK (K := K) rfl (pv 0) rfl) pe_int (fun _ _ => rfl)) pa_nil))) pa_nil)))), ?_⟩
  exact (rs_ret (rz_cb (rz_cons (rz_frz (rzm_lst (rz_star (rz_fld (u := uv K C) (c := 0) (rz_var 0) T.cls_Board T.na_Board_table) (rz_star (rz_op (rz_fld (u := uv K C) (c := 0) (rz_var 0) T.cls_Board T.na_Board_table) rz_int rr_ix) rz_nil)))) rz_nil) rc_len))
theorem ok_Board___len__ (T : Txt K mg C) : FnX P w K mg base 1 ["self"] (SpF (uv K C) 1 F_Board___len__) (fun f => Meth K C "__len__" f) := by
  obtain ⟨f, fd, F0, m0⟩ := T.d_Board___len__
  exact ⟨f, fd, okd_Board___len__ T F0, m0, F0.kp, F0.bindsN fun _ _ _ _ _ _ us hl => match us, hl with | [_], _ => rfl⟩
theorem sc__law_taken : FnScope ["_law_row", "_law_many_here", "_law_found", "_law_cell"] ["_law_row", "_law_many_here"] (defScope s__law_taken) := ⟨rfl, rfl, rfl, by decide +kernel, rfl, by decide +kernel, by decide +kernel⟩
def B__law_taken : ML.Env → SO :=
  (seqF (ifS (testF (op2F (ixPF 0 (cF (.int 3))) (cF (.int 0)) (cmpD fun i j => decide (j < i)))) (seqF (asgF (op2F (cbF (consF (ixPF 0 (cF (.int 3))) nilF) intD) (varF 1) modD) (gnF 2))
  (seqF (setIF 0 (op2F (ixPF 0 (cF (.int 3))) (varF 1) fdivD) (cF (.int 3)))
  (retF (varF 2)))) nxF)
  (seqF (setIF 0 (op2F (ixPF 0 (cF (.int 1))) (cF (.int 1)) addD) (cF (.int 1)))
  (seqF (ifS (testF (op2F (ixPF 0 (cF (.int 1))) (cbF (consF (ixPF 0 (cF (.int 0))) nilF) (lenA 0 F_Board___len__)) (cmpD fun i j => decide (j < i)))) (seqF (setIF 0 (op2F (cbF (consF (op2F (op2F (ixPF 0 (cF (.int 2))) (cF (.int 48271)) mulD) (cF (.int 11)) addD) nilF) intD) (cF (.int 2147483647)) modD) (cF (.int 2)))
  (retF (op2F (cbF (consF (op2F (ixPF 0 (cF (.int 2))) (cF (.int 7)) fdivD) nilF) intD) (varF 1) modD))) nxF)
  (seqF (asgF (op2F (ixPF 0 (cF (.int 0))) (op2F (ixPF 0 (cF (.int 1))) (cF (.int 1)) subD) ixD) (gnF 3))
  (seqF (setIF 0 (op2F (cbF (consF (op2F (op2F (op2F (ixPF 0 (cF (.int 2))) (cF (.int 48271)) mulD) (varF 3) addD) (cF (.int 11)) addD) nilF) intD) (cF (.int 2147483647)) modD) (cF (.int 2)))
  (seqF (ifS (testF (op2F (varF 3) (op2F (cF (.int 10)) (cF (.int 18)) powD) (cmpD fun i j => decide (j ≤ i)))) (setIF 0 (op2F (varF 3) (varF 1) fdivD) (cF (.int 3))) nxF)
  (retF (op2F (cbF (consF (varF 3) nilF) intD) (varF 1) modD))))))))
def F__law_taken : D → List D → RtM := runM 4 B__law_taken
theorem okd__law_taken (T : Txt K mg C) {f : Addr} {fd : FuncData} (F0 : FunD K "_law_taken" "_law_taken" (defArgs s__law_taken) (defBody s__law_taken) (defScope s__law_taken) [] [] f fd) : FnOk P w K mg base CX0 3 f fd ["_law_row", "_law_many_here"] (SpM (uv K C) 1 F__law_taken) := by
  obtain ⟨f_Board___len__, fd_Board___len__, G_Board___len__, m_Board___len__, k_Board___len__, b_Board___len__⟩ := ok_Board___len__ (P := P) (w := w) (base := base) T
  refine okM (u := uv K C) rfl F0 sc__law_taken rfl rfl fun cdv A outer s H E hr => ⟨_, (pss_cons (ps_if (pt_cmpR op_gt (pe_ix (r := rIx K) ix_seq (pv 0) pe_int (fun _ _ => rfl)) pe_int (nomark _)) (pss_cons (ps_set (i := 2) sc__law_taken.nd rfl (Or.inl rfl) (pe_op op_mod (pe_callTy call_int1 rfl T.n_int (by decide +kernel) (pa_cons (pe_ix (r := rIx K) ix_seq (pv 0) pe_int (fun _ _ => rfl)) pa_nil)) (pv 1)))
  (pss_cons (ps_asg (pe_op op_fdiv (pe_ix (r := rIx K) ix_seq (pv 0) pe_int (fun _ _ => rfl)) (pv 1)) (pg_sub (pv 0) pe_int set_list))
  (pss_one (ps_ret (pv 2))))) pss_nil)
  (pss_cons (ps_asg (pe_op (r := MH.rAddA K) MH.op_addA (pe_ix (r := rIx K) ix_seq (pv 0) pe_int (fun _ _ => rfl)) pe_int) (pg_sub (pv 0) pe_int set_list))
  (pss_cons (ps_if (pt_cmpR op_gt (pe_ix (r := rIx K) ix_seq (pv 0) pe_int (fun _ _ => rfl)) (pe_callB (r := MH.rLenA K C (SpF (uv K C) 1 F_Board___len__)) (MH.call_lenA m_Board___len__ G_Board___len__ (hr.mono (by decide)) b_Board___len__) rfl T.n_len (by decide +kernel) (pa_cons (pe_ix (r := rIx K) ix_seq (pv 0) pe_int (fun _ _ => rfl)) pa_nil)) (nomark _)) (pss_cons (ps_asg (pe_op op_mod (pe_callTy call_int1 rfl T.n_int (by decide +kernel) (pa_cons (pe_op (r := MH.rAddA K) MH.op_addA (pe_op (r := MH.rMulA K) MH.op_mulA (pe_ix (r := rIx K) ix_seq (pv 0) pe_int (fun _ _ => rfl)) pe_int) pe_int) pa_nil)) pe_int) (pg_sub (pv 0) pe_int set_list))
  (pss_one (ps_ret (pe_op op_mod (pe_callTy call_int1 rfl T.n_int (by decide +kernel) (pa_cons (pe_op op_fdiv (pe_ix (r := rIx K) ix_seq (pv 0) pe_int (fun _ _ => rfl)) pe_int) pa_nil)) (pv 1))))) pss_nil)
  (pss_cons (ps_set (i := 3) sc__law_taken.nd rfl (Or.inl rfl) (pe_ix (r := rIx K) ix_seq (pe_ix (r := rIx K) ix_seq (pv 0) pe_int (fun _ _ => rfl)) (pe_op op_sub (pe_ix (r := rIx K) ix_seq (pv 0) pe_int (fun _ _ => rfl)) pe_int) (fun _ _ => rfl)))
  (pss_cons (ps_asg (pe_op op_mod (pe_callTy call_int1 rfl T.n_int (by decide +kernel) (pa_cons (pe_op (r := MH.rAddA K) MH.op_addA (pe_op (r := MH.rAddA K) MH.op_addA (pe_op (r := MH.rMulA K) MH.op_mulA (pe_ix (r := rIx K) ix_seq (pv 0) pe_int (fun _ _ => rfl)) pe_int) (pv 3)) pe_int) pa_nil)) pe_int) (pg_sub (pv 0) pe_int set_list))
  (pss_cons (ps_if (pt_cmpR op_ge (pv 3) (pe_op op_pow pe_int pe_int) (nomark _)) (pss_one (ps_asg (pe_op op_fdiv (pv 3) (pv 1)) (pg_sub (pv 0) pe_int set_list))) pss_nil)
  (pss_one (ps_ret (pe_op op_mod (pe_callTy call_int1 rfl T.n_int (by decide +kernel) (pa_cons (pv 3) pa_nil)) (pv 1)))))))))), ?_⟩
  exact (rs_seq (rs_if (rt_test (rz_op (rz_ixP rz_int) rz_int rr_gt)) (rs_seq (rs_asg (b := [0]) (rz_op (rz_cb (rz_cons (rz_ixP rz_int) rz_nil) rc_int) (rz_var 1) rr_mod) (rg_name 2))
  (rs_seq (rs_setI (rz_op (rz_ixP rz_int) (rz_var 1) rr_fdiv) rz_int)
  (rs_ret (rz_var 2)))) rs_next)
  (rs_seq (rs_setI (rz_op (rz_ixP rz_int) rz_int rr_add) rz_int)
  (rs_seq (rs_if (rt_test (rz_op (rz_ixP rz_int) (rz_cb (rz_cons (rz_ixP rz_int) rz_nil) rc_lenA) rr_gt)) (rs_seq (rs_setI (rz_op (rz_cb (rz_cons (rz_op (rz_op (rz_ixP rz_int) rz_int rr_mul) rz_int rr_add) rz_nil) rc_int) rz_int rr_mod) rz_int)
  (rs_ret (rz_op (rz_cb (rz_cons (rz_op (rz_ixP rz_int) rz_int rr_fdiv) rz_nil) rc_int) (rz_var 1) rr_mod))) rs_next)
  (rs_seq (rs_asg (b := [0]) (rz_op (rz_ixP rz_int) (rz_op (rz_ixP rz_int) rz_int rr_sub) rr_ix) (rg_name 3))
  (rs_seq (rs_setI (rz_op (rz_cb (rz_cons (rz_op (rz_op (rz_op (rz_ixP rz_int) rz_int rr_mul) (rz_var 3) rr_add) rz_int rr_add) rz_nil) rc_int) rz_int rr_mod) rz_int)
  (rs_seq (rs_if (rt_test (rz_op (rz_var 3) (rz_op rz_int rz_int rr_pow) rr_ge)) (rs_setI (rz_op (rz_var 3) (rz_var 1) rr_fdiv) rz_int) rs_next)
  (rs_ret (rz_op (rz_cb (rz_cons (rz_var 3) rz_nil) rc_int) (rz_var 1) rr_mod))))))))
theorem ok__law_taken (T : Txt K mg C) : FnX P w K mg base 3 ["_law_row", "_law_many_here"] (SpM (uv K C) 1 F__law_taken) (fun f => mg "_law_taken" = some (.ref f)) := by
  obtain ⟨f, fd, F0, m0⟩ := T.d__law_taken
  exact ⟨f, fd, okd__law_taken T F0, m0, F0.kp, F0.bindsN fun _ _ _ _ _ _ us hl => match us, hl with | [_, _], _ => rfl⟩
theorem sc__law_cells : FnScope ["_law_row", "_law_most", "_law_some", "_law_rows", "_law_columns", "_law_lines", "_law_at", "_law_place"] ["_law_row", "_law_most"] (defScope s__law_cells) := ⟨rfl, rfl, rfl, by decide +kernel, rfl, by decide +kernel, by decide +kernel⟩
abbrev B__law_cells_L1 : ML.Env → SO :=
  (appF 5 (joinF (cF (.str "")) (frzF (lcM [7] (rng1F (varF 4)) (gnF 7) tYesF (op2F (varF 2) (callMF 1 0 (consF (cbF (consF (varF 2) nilF) (lenA 0 F_Board___len__)) nilF) F__law_taken) ixD)))))
def B__law_cells : ML.Env → SO :=
  (seqF (asgF (op2F (frzF (lstM (consF (cF (.str ".<>x")) (consF (cF (.str "....<>x")) (consF (cF (.str "<>")) (consF (cF (.str "<>x")) (consF (cF (.str ".x")) (consF (cF (.str ">>>>>><")) (consF (cF (.str ".....<>")) (consF (cF (.str ".")) (consF (cF (.str "x")) (consF (cF (.str ">")) nilF)))))))))))) (callMF 1 0 (consF (cF (.int 10)) nilF) F__law_taken) ixD) (gnF 2))
  (seqF (parF 3 4 (fzM (op2F (cF (.int 1)) (callMF 1 0 (consF (varF 1) nilF) F__law_taken) addD)) (fzM (op2F (cF (.int 1)) (callMF 1 0 (consF (varF 1) nilF) F__law_taken) addD)))
  (seqF (setM (lstM nilF) 5)
  (seqF (forS (rng1F (varF 3)) (gnF 6) B__law_cells_L1)
  (seqF (ifS (testF (op2F (callMF 1 0 (consF (cF (.int 3)) nilF) F__law_taken) (cF (.int 0)) eqD)) (seqF (parF 6 7 (fzM (callMF 1 0 (consF (varF 3) nilF) F__law_taken)) (fzM (callMF 1 0 (consF (varF 4) nilF) F__law_taken)))
  (setIF 5 (op2F (op2F (slF (ixPF 5 (varF 6)) noPF (partF (varF 7))) (op2F (cF (.str ".<>x")) (callMF 1 0 (consF (cF (.int 4)) nilF) F__law_taken) ixD) addD) (slF (ixPF 5 (varF 6)) (partF (op2F (varF 7) (cF (.int 1)) addD)) noPF) addD) (varF 6))) nxF)
  (retF (cbF (consF (varF 5) nilF) tupleD)))))))
def F__law_cells : D → List D → RtM := runM 8 B__law_cells
theorem okd__law_cells (T : Txt K mg C) {f : Addr} {fd : FuncData} (F0 : FunD K "_law_cells" "_law_cells" (defArgs s__law_cells) (defBody s__law_cells) (defScope s__law_cells) [] [] f fd) : FnOk P w K mg base CX0 4 f fd ["_law_row", "_law_most"] (SpM (uv K C) 1 F__law_cells) := by
  obtain ⟨f__law_taken, fd__law_taken, G__law_taken, m__law_taken, k__law_taken, b__law_taken⟩ := ok__law_taken (P := P) (w := w) (base := base) T
  obtain ⟨f_Board___len__, fd_Board___len__, G_Board___len__, m_Board___len__, k_Board___len__, b_Board___len__⟩ := ok_Board___len__ (P := P) (w := w) (base := base) T
  refine okM (u := uv K C) rfl F0 sc__law_cells rfl rfl fun cdv A outer s H E hr => ⟨_, (pss_cons (ps_set (i := 2) sc__law_cells.nd rfl (Or.inr rfl) (pe_ix (r := rIx K) ix_seq (pe_lst (pa_cons pe_str (pa_cons pe_str (pa_cons pe_str (pa_cons pe_str (pa_cons pe_str (pa_cons pe_str (pa_cons pe_str (pa_cons pe_str (pa_cons pe_str (pa_cons pe_str pa_nil))))))))))) (pe_call G__law_taken (hr.mono (by decide)) rfl m__law_taken k__law_taken b__law_taken .nil pass0 (pa_cons (pv 0) (pa_cons pe_int pa_nil))) (fun _ _ => rfl)))
  (pss_cons (ps_par (i := 3) (j := 4) rfl sc__law_cells.nd rfl rfl (by decide) rfl rfl (pa_cons (pe_op (r := MH.rAddA K) MH.op_addA pe_int (pe_call G__law_taken (hr.mono (by decide)) rfl m__law_taken k__law_taken b__law_taken .nil pass0 (pa_cons (pv 0) (pa_cons (pv 1) pa_nil)))) (pa_cons (pe_op (r := MH.rAddA K) MH.op_addA pe_int (pe_call G__law_taken (hr.mono (by decide)) rfl m__law_taken k__law_taken b__law_taken .nil pass0 (pa_cons (pv 0) (pa_cons (pv 1) pa_nil)))) pa_nil)) (by rfl))
  (pss_cons (ps_set (i := 5) sc__law_cells.nd rfl (Or.inl rfl) (pe_lst pa_nil))
  (pss_cons (ps_for PassesOwn.never rfl (pi_range1 rfl T.n_range (pa_cons (pv 3) pa_nil)) (pg_name (i := 6) sc__law_cells.nd rfl (Or.inl rfl)) (pss_one (ps_expr (pe_bm PySem.F.plainAttrs_list PySem.F.slot_list_append PySem.F.type_list_append mt_append (pv 5) (pa_cons (MH.pe_joinK (K := K) rfl pe_str (pe_lc (own := [("_law_place", 7)]) rfl sc__law_cells.nd (pi_range1 rfl T.n_range (pa_cons (pv 4) pa_nil)) (blkOk_by (own := [("_law_place", 7)]) (by kernel_rfl)) (fun _ _ _ _ _ => (pg_name (i := 7) sc__law_cells.nd rfl (Or.inl rfl))) (fun _ _ _ _ _ => pts_nil) (fun _ _ _ _ _ => (pe_ix (r := rIx K) ix_seq (pv 2) (pe_call G__law_taken (hr.mono (by decide)) rfl m__law_taken k__law_taken b__law_taken .nil pass0 (pa_cons (pv 0) (pa_cons (pe_callB (r := MH.rLenA K C (SpF (uv K C) 1 F_Board___len__)) (MH.call_lenA m_Board___len__ G_Board___len__ (hr.mono (by decide)) b_Board___len__) rfl T.n_len (by decide +kernel) (pa_cons (pv 2) pa_nil)) pa_nil))) (fun _ _ => rfl))))) pa_nil)))))
  (pss_cons (ps_if (pt_cmpR (r := rEqD K) (op_eqD hr.units) (pe_call G__law_taken (hr.mono (by decide)) rfl m__law_taken k__law_taken b__law_taken .nil pass0 (pa_cons (pv 0) (pa_cons pe_int pa_nil))) pe_int (nomark _)) (pss_cons (ps_par (i := 6) (j := 7) rfl sc__law_cells.nd rfl rfl (by decide) rfl rfl (pa_cons (pe_call G__law_taken (hr.mono (by decide)) rfl m__law_taken k__law_taken b__law_taken .nil pass0 (pa_cons (pv 0) (pa_cons (pv 3) pa_nil))) (pa_cons (pe_call G__law_taken (hr.mono (by decide)) rfl m__law_taken k__law_taken b__law_taken .nil pass0 (pa_cons (pv 0) (pa_cons (pv 4) pa_nil))) pa_nil)) (by rfl))
  (pss_one (ps_asg (pe_op (r := MH.rAddA K) MH.op_addA (pe_op (r := MH.rAddA K) MH.op_addA (pe_slice (r := MH.rSlAll K) MH.sl_all (pe_ix (r := rIx K) ix_seq (pv 5) (pv 6) (fun _ _ => rfl)) po_none (po_some (pv 7))) (pe_ix (r := rIx K) ix_seq pe_str (pe_call G__law_taken (hr.mono (by decide)) rfl m__law_taken k__law_taken b__law_taken .nil pass0 (pa_cons (pv 0) (pa_cons pe_int pa_nil))) (fun _ _ => rfl))) (pe_slice (r := MH.rSlAll K) MH.sl_all (pe_ix (r := rIx K) ix_seq (pv 5) (pv 6) (fun _ _ => rfl)) (po_some (pe_op (r := MH.rAddA K) MH.op_addA (pv 7) pe_int)) po_none)) (pg_sub (pv 5) (pv 6) set_list)))) pss_nil)
  (pss_one (ps_ret (pe_callTy (r := MH.rTuple K) call_tuple_of rfl T.n_tuple (by decide +kernel) (pa_cons (pv 5) pa_nil))))))))), ?_⟩
  exact (rs_seq (rs_asg (b := [0]) (rz_op (rz_frz (rzm_lst (rz_cons rz_str (rz_cons rz_str (rz_cons rz_str (rz_cons rz_str (rz_cons rz_str (rz_cons rz_str (rz_cons rz_str (rz_cons rz_str (rz_cons rz_str (rz_cons rz_str rz_nil)))))))))))) (rz_callM (rz_cons rz_int rz_nil)) rr_ix) (rg_name 2))
  (rs_seq (rs_par (b := [0]) (rzm_fz (rz_op rz_int (rz_callM (rz_cons (rz_var 1) rz_nil)) rr_add)) (rzm_fz (rz_op rz_int (rz_callM (rz_cons (rz_var 1) rz_nil)) rr_add)))
  (rs_seq (rs_setM (b := [0]) (rzm_lst rz_nil))
  (rs_seq (rs_for (b := [0]) (ri_rng1 (rz_var 3)) (rg_name 6) (rs_app (rz_joinK rz_str (rz_frz (rzm_lc (vs := [7]) (ri_rng1 (rz_var 4)) (rg_name 7) rt_yes (rz_op (rz_var 2) (rz_callM (rz_cons (rz_cb (rz_cons (rz_var 2) rz_nil) rc_lenA) rz_nil)) rr_ix))))))
  (rs_seq (rs_if (rt_test (rz_op (rz_callM (rz_cons rz_int rz_nil)) rz_int rr_eq)) (rs_seq (rs_par (b := [0]) (rzm_fz (rz_callM (rz_cons (rz_var 3) rz_nil))) (rzm_fz (rz_callM (rz_cons (rz_var 4) rz_nil))))
  (rs_setI (rz_op (rz_op (rz_slice (rz_ixP (rz_var 6)) ro_none (ro_some (rz_var 7))) (rz_op rz_str (rz_callM (rz_cons rz_int rz_nil)) rr_ix) rr_add) (rz_slice (rz_ixP (rz_var 6)) (ro_some (rz_op (rz_var 7) rz_int rr_add)) ro_none) rr_add) (rz_var 6))) rs_next)
  (rs_ret (rz_cb (rz_cons (rz_var 5) rz_nil) rc_tuple)))))))
theorem ok__law_cells (T : Txt K mg C) : FnX P w K mg base 4 ["_law_row", "_law_most"] (SpM (uv K C) 1 F__law_cells) (fun f => mg "_law_cells" = some (.ref f)) := by
  obtain ⟨f, fd, F0, m0⟩ := T.d__law_cells
  exact ⟨f, fd, okd__law_cells T F0, m0, F0.kp, F0.bindsN fun _ _ _ _ _ _ us hl => match us, hl with | [_, _], _ => rfl⟩
theorem sc__law_steps : FnScope ["_law_cells_here", "_law_found", "_law_at", "_law_place"] ["_law_cells_here"] (defScope s__law_steps) := ⟨rfl, rfl, rfl, by decide +kernel, rfl, by decide +kernel, by decide +kernel⟩
abbrev B__law_steps_L1 : ML.Env → SO :=
  (seqF (ifS (testF (op2F (op2F (op2F (varF 0) (varF 2) ixD) (varF 3) ixD) (frzF (lstM (consF (cF (.str ">")) (consF (cF (.str "x")) nilF)))) inD)) (appF 1 (tupF (consF (varF 2) (consF (op2F (cbF (consF (varF 0) nilF) (lenA 0 F_Board___len__)) (varF 3) addD) nilF)))) nxF)
  (ifS (testF (op2F (op2F (op2F (varF 0) (varF 2) ixD) (varF 3) ixD) (frzF (lstM (consF (cF (.str "<")) (consF (cF (.str "x")) nilF)))) inD)) (appF 1 (tupF (consF (op2F (cbF (consF (varF 0) nilF) (lenA 0 F_Board___len__)) (varF 3) addD) (consF (varF 2) nilF)))) nxF))
abbrev B__law_steps_L2 : ML.Env → SO :=
  (forS (rng1F (cbF (consF (op2F (varF 0) (cF (.int 0)) ixD) nilF) (lenA 0 F_Board___len__))) (gnF 3) B__law_steps_L1)
def B__law_steps : ML.Env → SO :=
  (seqF (setM (lstM nilF) 1)
  (seqF (forS (rng1F (cbF (consF (varF 0) nilF) (lenA 0 F_Board___len__))) (gnF 2) B__law_steps_L2)
  (retF (cbF (consF (varF 1) nilF) sortAD))))
def F__law_steps : List D → Rt := runF 4 B__law_steps
theorem okd__law_steps (T : Txt K mg C) {f : Addr} {fd : FuncData} (F0 : FunD K "_law_steps" "_law_steps" (defArgs s__law_steps) (defBody s__law_steps) (defScope s__law_steps) [] [] f fd) : FnOk P w K mg base CX0 3 f fd ["_law_cells_here"] (SpF (uv K C) 1 F__law_steps) := by
  obtain ⟨f_Board___len__, fd_Board___len__, G_Board___len__, m_Board___len__, k_Board___len__, b_Board___len__⟩ := ok_Board___len__ (P := P) (w := w) (base := base) T
  refine okF (u := uv K C) rfl F0 sc__law_steps rfl fun cdv A outer s H E hr => ⟨_, (pss_cons (ps_set (i := 1) sc__law_steps.nd rfl (Or.inl rfl) (pe_lst pa_nil))
  (pss_cons (ps_for PassesOwn.never rfl (pi_range1 rfl T.n_range (pa_cons (pe_callB (r := MH.rLenA K C (SpF (uv K C) 1 F_Board___len__)) (MH.call_lenA m_Board___len__ G_Board___len__ (hr.mono (by decide)) b_Board___len__) rfl T.n_len (by decide +kernel) (pa_cons (pv 0) pa_nil)) pa_nil)) (pg_name (i := 2) sc__law_steps.nd rfl (Or.inl rfl)) (pss_one (ps_for PassesOwn.never rfl (pi_range1 rfl T.n_range (pa_cons (pe_callB (r := MH.rLenA K C (SpF (uv K C) 1 F_Board___len__)) (MH.call_lenA m_Board___len__ G_Board___len__ (hr.mono (by decide)) b_Board___len__) rfl T.n_len (by decide +kernel) (pa_cons (pe_ix (r := rIx K) ix_seq (pv 0) pe_int (fun _ _ => rfl)) pa_nil)) pa_nil)) (pg_name (i := 3) sc__law_steps.nd rfl (Or.inl rfl)) (pss_cons (ps_if (pt_cmpR (r := MH.rInA K) (MH.op_inA hr) (pe_ix (r := rIx K) ix_seq (pe_ix (r := rIx K) ix_seq (pv 0) (pv 2) (fun _ _ => rfl)) (pv 3) (fun _ _ => rfl)) (pe_lst (pa_cons pe_str (pa_cons pe_str pa_nil))) (by rfl)) (pss_one (ps_expr (pe_bm PySem.F.plainAttrs_list PySem.F.slot_list_append PySem.F.type_list_append mt_append (pv 1) (pa_cons (pe_tup (pa_cons (pv 2) (pa_cons (pe_op (r := MH.rAddA K) MH.op_addA (pe_callB (r := MH.rLenA K C (SpF (uv K C) 1 F_Board___len__)) (MH.call_lenA m_Board___len__ G_Board___len__ (hr.mono (by decide)) b_Board___len__) rfl T.n_len (by decide +kernel) (pa_cons (pv 0) pa_nil)) (pv 3)) pa_nil))) pa_nil)))) pss_nil)
  (pss_one (ps_if (pt_cmpR (r := MH.rInA K) (MH.op_inA hr) (pe_ix (r := rIx K) ix_seq (pe_ix (r := rIx K) ix_seq (pv 0) (pv 2) (fun _ _ => rfl)) (pv 3) (fun _ _ => rfl)) (pe_lst (pa_cons pe_str (pa_cons pe_str pa_nil))) (by rfl)) (pss_one (ps_expr (pe_bm PySem.F.plainAttrs_list PySem.F.slot_list_append PySem.F.type_list_append mt_append (pv 1) (pa_cons (pe_tup (pa_cons (pe_op (r := MH.rAddA K) MH.op_addA (pe_callB (r := MH.rLenA K C (SpF (uv K C) 1 F_Board___len__)) (MH.call_lenA m_Board___len__ G_Board___len__ (hr.mono (by decide)) b_Board___len__) rfl T.n_len (by decide +kernel) (pa_cons (pv 0) pa_nil)) (pv 3)) (pa_cons (pv 2) pa_nil))) pa_nil)))) pss_nil))))))
  (pss_one (ps_ret (pe_callB (r := MH.rSortA K) (MH.cr_sortA hr rfl) rfl T.n_sorted (by decide +kernel) (pa_cons (pv 1) pa_nil)))))), ?_⟩
  exact (rs_seq (rs_setM (b := []) (rzm_lst rz_nil))
  (rs_seq (rs_for (b := []) (ri_rng1 (rz_cb (rz_cons (rz_var 0) rz_nil) rc_lenA)) (rg_name 2) (rs_for (b := []) (ri_rng1 (rz_cb (rz_cons (rz_op (rz_var 0) rz_int rr_ix) rz_nil) rc_lenA)) (rg_name 3) (rs_seq (rs_if (rt_test (rz_op (rz_op (rz_op (rz_var 0) (rz_var 2) rr_ix) (rz_var 3) rr_ix) (rz_frz (rzm_lst (rz_cons rz_str (rz_cons rz_str rz_nil)))) rr_in)) (rs_app (rz_tup (rz_cons (rz_var 2) (rz_cons (rz_op (rz_cb (rz_cons (rz_var 0) rz_nil) rc_lenA) (rz_var 3) rr_add) rz_nil)))) rs_next)
  (rs_if (rt_test (rz_op (rz_op (rz_op (rz_var 0) (rz_var 2) rr_ix) (rz_var 3) rr_ix) (rz_frz (rzm_lst (rz_cons rz_str (rz_cons rz_str rz_nil)))) rr_in)) (rs_app (rz_tup (rz_cons (rz_op (rz_cb (rz_cons (rz_var 0) rz_nil) rc_lenA) (rz_var 3) rr_add) (rz_cons (rz_var 2) rz_nil)))) rs_next))))
  (rs_ret (rz_cb (rz_cons (rz_var 1) rz_nil) rc_sortA))))
theorem ok__law_steps (T : Txt K mg C) : FnX P w K mg base 3 ["_law_cells_here"] (SpF (uv K C) 1 F__law_steps) (fun f => mg "_law_steps" = some (.ref f)) := by
  obtain ⟨f, fd, F0, m0⟩ := T.d__law_steps
  exact ⟨f, fd, okd__law_steps T F0, m0, F0.kp, F0.bindsN fun _ _ _ _ _ _ us hl => match us, hl with | [_], _ => rfl⟩
theorem sc__law_all_lots : FnScope ["_law_many_here", "_law_found", "_law_thread", "_law_lot", "_law_size"] ["_law_many_here"] (defScope s__law_all_lots) := ⟨rfl, rfl, rfl, by decide +kernel, rfl, by decide +kernel, by decide +kernel⟩
abbrev B__law_all_lots_L1 : ML.Env → SO :=
  (asgF (op2F (varF 1) (frzF (lcM [3] (itF (varF 1)) (gnF 3) tYesF (op2F (varF 3) (tupF (consF (varF 2) nilF)) addD))) addD) (gnF 1))
def B__law_all_lots : ML.Env → SO :=
  (seqF (asgF (frzF (lstM (consF (tupF nilF) nilF))) (gnF 1))
  (seqF (forS (rng1F (varF 0)) (gnF 2) B__law_all_lots_L1)
  (retF (frzF (lcM [4, 3] (itF (cbF (consF (frzF (lcM [3] (itF (varF 1)) (gnF 3) tYesF (tupF (consF (cbF (consF (varF 3) nilF) (lenA 0 F_Board___len__)) (consF (varF 3) nilF))))) nilF) sortAD)) (gtupF 2 (gconsF (gnF 4) (gconsF (gnF 3) gnilF))) tYesF (varF 3))))))
def F__law_all_lots : List D → Rt := runF 5 B__law_all_lots
theorem okd__law_all_lots (T : Txt K mg C) {f : Addr} {fd : FuncData} (F0 : FunD K "_law_all_lots" "_law_all_lots" (defArgs s__law_all_lots) (defBody s__law_all_lots) (defScope s__law_all_lots) [] [] f fd) : FnOk P w K mg base CX0 3 f fd ["_law_many_here"] (SpF (uv K C) 1 F__law_all_lots) := by
  obtain ⟨f_Board___len__, fd_Board___len__, G_Board___len__, m_Board___len__, k_Board___len__, b_Board___len__⟩ := ok_Board___len__ (P := P) (w := w) (base := base) T
  refine okF (u := uv K C) rfl F0 sc__law_all_lots rfl fun cdv A outer s H E hr => ⟨_, (pss_cons (ps_set (i := 1) sc__law_all_lots.nd rfl (Or.inl rfl) (pe_lst (pa_cons (pe_tup pa_nil) pa_nil)))
  (pss_cons (ps_for PassesOwn.never rfl (pi_range1 rfl T.n_range (pa_cons (pv 0) pa_nil)) (pg_name (i := 2) sc__law_all_lots.nd rfl (Or.inr rfl)) (pss_one (ps_set (i := 1) sc__law_all_lots.nd rfl (Or.inl rfl) (pe_op (r := MH.rAddA K) MH.op_addA (pv 1) (pe_lc (own := [("_law_lot", 3)]) rfl sc__law_all_lots.nd (MH.pi_anyK (K := K) rfl (pv 1)) (blkOk_by (own := [("_law_lot", 3)]) (by kernel_rfl)) (fun _ _ _ _ _ => (pg_name (i := 3) sc__law_all_lots.nd rfl (Or.inl rfl))) (fun _ _ _ _ _ => pts_nil) (fun _ _ _ _ _ => (pe_op (r := MH.rAddA K) MH.op_addA (pv 3) (pe_tup (pa_cons (pv 2) pa_nil)))))))))
  (pss_one (ps_ret (pe_lc (own := [("_law_size", 4), ("_law_lot", 3)]) rfl sc__law_all_lots.nd (MH.pi_anyK (K := K) rfl (pe_callB (r := MH.rSortA K) (MH.cr_sortA hr rfl) rfl T.n_sorted (by decide +kernel) (pa_cons (pe_lc (own := [("_law_lot", 3)]) rfl sc__law_all_lots.nd (MH.pi_anyK (K := K) rfl (pv 1)) (blkOk_by (own := [("_law_lot", 3)]) (by kernel_rfl)) (fun _ _ _ _ _ => (pg_name (i := 3) sc__law_all_lots.nd rfl (Or.inl rfl))) (fun _ _ _ _ _ => pts_nil) (fun _ _ _ _ _ => (pe_tup (pa_cons (pe_callB (r := MH.rLenA K C (SpF (uv K C) 1 F_Board___len__)) (MH.call_lenA m_Board___len__ G_Board___len__ (hr.mono (by decide)) b_Board___len__) rfl T.n_len (by decide +kernel) (pa_cons (pv 3) pa_nil)) (pa_cons (pv 3) pa_nil))))) pa_nil))) (blkOk_by (own := [("_law_size", 4), ("_law_lot", 3)]) (by kernel_rfl)) (fun _ _ _ _ _ => (MH.pg_tupK (K := K) (n := 2) rfl rfl (pgs_cons (pg_name (i := 4) sc__law_all_lots.nd rfl (Or.inl rfl)) (pgs_cons (pg_name (i := 3) sc__law_all_lots.nd rfl (Or.inl rfl)) pgs_nil)))) (fun _ _ _ _ _ => pts_nil) (fun _ _ _ _ _ => (pv 3))))))), ?_⟩
  exact (rs_seq (rs_asg (b := []) (rz_frz (rzm_lst (rz_cons (rz_tup rz_nil) rz_nil))) (rg_name 1))
  (rs_seq (rs_for (b := []) (ri_rng1 (rz_var 0)) (rg_name 2) (rs_asg (b := []) (rz_op (rz_var 1) (rz_frz (rzm_lc (vs := [3]) (ri_any (rz_var 1)) (rg_name 3) rt_yes (rz_op (rz_var 3) (rz_tup (rz_cons (rz_var 2) rz_nil)) rr_add))) rr_add) (rg_name 1)))
  (rs_ret (rz_frz (rzm_lc (vs := [4, 3]) (ri_any (rz_cb (rz_cons (rz_frz (rzm_lc (vs := [3]) (ri_any (rz_var 1)) (rg_name 3) rt_yes (rz_tup (rz_cons (rz_cb (rz_cons (rz_var 3) rz_nil) rc_lenA) (rz_cons (rz_var 3) rz_nil))))) rz_nil) rc_sortA)) (rg_tup (rgs_cons (rg_name 4) (rgs_cons (rg_name 3) rgs_nil))) rt_yes (rz_var 3))))))
theorem ok__law_all_lots (T : Txt K mg C) : FnX P w K mg base 3 ["_law_many_here"] (SpF (uv K C) 1 F__law_all_lots) (fun f => mg "_law_all_lots" = some (.ref f)) := by
  obtain ⟨f, fd, F0, m0⟩ := T.d__law_all_lots
  exact ⟨f, fd, okd__law_all_lots T F0, m0, F0.kp, F0.bindsN fun _ _ _ _ _ _ us hl => match us, hl with | [_], _ => rfl⟩
theorem sc__law_is_closed : FnScope ["_law_told", "_law_lot", "_law_one", "_law_other"] ["_law_told", "_law_lot"] (defScope s__law_is_closed) := ⟨rfl, rfl, rfl, by decide +kernel, rfl, by decide +kernel, by decide +kernel⟩
def B__law_is_closed : ML.Env → SO :=
  (retF (op2F (frzF (lcM [2, 3] (itF (varF 0)) (gtupF 2 (gconsF (gnF 2) (gconsF (gnF 3) gnilF))) (andT (testF (op2F (varF 3) (varF 1) inD)) (testF (op2F (varF 2) (varF 1) notInD))) (varF 2))) (frzF (lstM nilF)) eqD))
def F__law_is_closed : List D → Rt := runF 4 B__law_is_closed
theorem okd__law_is_closed (T : Txt K mg C) {f : Addr} {fd : FuncData} (F0 : FunD K "_law_is_closed" "_law_is_closed" (defArgs s__law_is_closed) (defBody s__law_is_closed) (defScope s__law_is_closed) [] [] f fd) : FnOk P w K mg base CX0 1 f fd ["_law_told", "_law_lot"] (SpF (uv K C) 2 F__law_is_closed) := by
  refine okF (u := uv K C) rfl F0 sc__law_is_closed rfl fun cdv A outer s H E hr => ⟨_, (pss_one (ps_ret (pe_cmpR (r := rEqD K) (op_eqD hr.units) (pe_lc (own := [("_law_one", 2), ("_law_other", 3)]) rfl sc__law_is_closed.nd (MH.pi_anyK (K := K) rfl (pv 0)) (blkOk_by (own := [("_law_one", 2), ("_law_other", 3)]) (by kernel_rfl)) (fun _ _ _ _ _ => (MH.pg_tupK (K := K) (n := 2) rfl rfl (pgs_cons (pg_name (i := 2) sc__law_is_closed.nd rfl (Or.inl rfl)) (pgs_cons (pg_name (i := 3) sc__law_is_closed.nd rfl (Or.inl rfl)) pgs_nil)))) (fun _ _ _ _ _ => (pts_one (PW.pt (pw_and (pt_cmpR (r := MH.rInA K) (MH.op_inA hr) (pv 3) (pv 1) (by rfl)) (pw_and1 (pt_cmpR (r := MH.rNotInA K) (MH.op_notInA hr) (pv 2) (pv 1) (by rfl))))))) (fun _ _ _ _ _ => (pv 2))) (pe_lst pa_nil) (nomark _)))), ?_⟩
  exact (rs_ret (rz_op (rz_frz (rzm_lc (vs := [2, 3]) (ri_any (rz_var 0)) (rg_tup (rgs_cons (rg_name 2) (rgs_cons (rg_name 3) rgs_nil))) (rt_and (rt_test (rz_op (rz_var 3) (rz_var 1) rr_in)) (rt_test (rz_op (rz_var 2) (rz_var 1) rr_notIn))) (rz_var 2))) (rz_frz (rzm_lst rz_nil)) rr_eq))
theorem ok__law_is_closed (T : Txt K mg C) : FnX P w K mg base 1 ["_law_told", "_law_lot"] (SpF (uv K C) 2 F__law_is_closed) (fun f => mg "_law_is_closed" = some (.ref f)) := by
  obtain ⟨f, fd, F0, m0⟩ := T.d__law_is_closed
  exact ⟨f, fd, okd__law_is_closed T F0, m0, F0.kp, F0.bindsN fun _ _ _ _ _ _ us hl => match us, hl with | [_, _], _ => rfl⟩
theorem sc__law_many : FnScope ["_law_cells_here"] ["_law_cells_here"] (defScope s__law_many) := ⟨rfl, rfl, rfl, by decide +kernel, rfl, by decide +kernel, by decide +kernel⟩
def B__law_many : ML.Env → SO :=
  (retF (op2F (cbF (consF (varF 0) nilF) (lenA 0 F_Board___len__)) (cbF (consF (op2F (varF 0) (cF (.int 0)) ixD) nilF) (lenA 0 F_Board___len__)) addD))
def F__law_many : List D → Rt := runF 1 B__law_many
theorem okd__law_many (T : Txt K mg C) {f : Addr} {fd : FuncData} (F0 : FunD K "_law_many" "_law_many" (defArgs s__law_many) (defBody s__law_many) (defScope s__law_many) [] [] f fd) : FnOk P w K mg base CX0 3 f fd ["_law_cells_here"] (SpF (uv K C) 1 F__law_many) := by
  obtain ⟨f_Board___len__, fd_Board___len__, G_Board___len__, m_Board___len__, k_Board___len__, b_Board___len__⟩ := ok_Board___len__ (P := P) (w := w) (base := base) T
  refine okF (u := uv K C) rfl F0 sc__law_many rfl fun cdv A outer s H E hr => ⟨_, (pss_one (ps_ret (pe_op (r := MH.rAddA K) MH.op_addA (pe_callB (r := MH.rLenA K C (SpF (uv K C) 1 F_Board___len__)) (MH.call_lenA m_Board___len__ G_Board___len__ (hr.mono (by decide)) b_Board___len__) rfl T.n_len (by decide +kernel) (pa_cons (pv 0) pa_nil)) (pe_callB (r := MH.rLenA K C (SpF (uv K C) 1 F_Board___len__)) (MH.call_lenA m_Board___len__ G_Board___len__ (hr.mono (by decide)) b_Board___len__) rfl T.n_len (by decide +kernel) (pa_cons (pe_ix (r := rIx K) ix_seq (pv 0) pe_int (fun _ _ => rfl)) pa_nil))))), ?_⟩
  exact (rs_ret (rz_op (rz_cb (rz_cons (rz_var 0) rz_nil) rc_lenA) (rz_cb (rz_cons (rz_op (rz_var 0) rz_int rr_ix) rz_nil) rc_lenA) rr_add))
theorem ok__law_many (T : Txt K mg C) : FnX P w K mg base 3 ["_law_cells_here"] (SpF (uv K C) 1 F__law_many) (fun f => mg "_law_many" = some (.ref f)) := by
  obtain ⟨f, fd, F0, m0⟩ := T.d__law_many
  exact ⟨f, fd, okd__law_many T F0, m0, F0.kp, F0.bindsN fun _ _ _ _ _ _ us hl => match us, hl with | [_], _ => rfl⟩
theorem sc__law_lots : FnScope ["_law_cells_here", "_law_told", "_law_lot"] ["_law_cells_here"] (defScope s__law_lots) := ⟨rfl, rfl, rfl, by decide +kernel, rfl, by decide +kernel, by decide +kernel⟩
def B__law_lots : ML.Env → SO :=
  (seqF (asgF (callF 1 (consF (varF 0) nilF) F__law_steps) (gnF 1))
  (retF (frzF (lcM [2] (itF (callF 1 (consF (callF 1 (consF (varF 0) nilF) F__law_many) nilF) F__law_all_lots)) (gnF 2) (testF (callF 2 (consF (varF 1) (consF (varF 2) nilF)) F__law_is_closed)) (varF 2)))))
def F__law_lots : List D → Rt := runF 3 B__law_lots
theorem okd__law_lots (T : Txt K mg C) {f : Addr} {fd : FuncData} (F0 : FunD K "_law_lots" "_law_lots" (defArgs s__law_lots) (defBody s__law_lots) (defScope s__law_lots) [] [] f fd) : FnOk P w K mg base CX0 4 f fd ["_law_cells_here"] (SpF (uv K C) 1 F__law_lots) := by
  obtain ⟨f__law_steps, fd__law_steps, G__law_steps, m__law_steps, k__law_steps, b__law_steps⟩ := ok__law_steps (P := P) (w := w) (base := base) T
  obtain ⟨f__law_all_lots, fd__law_all_lots, G__law_all_lots, m__law_all_lots, k__law_all_lots, b__law_all_lots⟩ := ok__law_all_lots (P := P) (w := w) (base := base) T
  obtain ⟨f__law_many, fd__law_many, G__law_many, m__law_many, k__law_many, b__law_many⟩ := ok__law_many (P := P) (w := w) (base := base) T
  obtain ⟨f__law_is_closed, fd__law_is_closed, G__law_is_closed, m__law_is_closed, k__law_is_closed, b__law_is_closed⟩ := ok__law_is_closed (P := P) (w := w) (base := base) T
  refine okF (u := uv K C) rfl F0 sc__law_lots rfl fun cdv A outer s H E hr => ⟨_, (pss_cons (ps_set (i := 1) sc__law_lots.nd rfl (Or.inr rfl) (pe_call G__law_steps (hr.mono (by decide)) rfl m__law_steps k__law_steps b__law_steps .nil pass0 (pa_cons (pv 0) pa_nil)))
  (pss_one (ps_ret (pe_lc (own := [("_law_lot", 2)]) rfl sc__law_lots.nd (MH.pi_anyK (K := K) rfl (pe_call G__law_all_lots (hr.mono (by decide)) rfl m__law_all_lots k__law_all_lots b__law_all_lots .nil pass0 (pa_cons (pe_call G__law_many (hr.mono (by decide)) rfl m__law_many k__law_many b__law_many .nil pass0 (pa_cons (pv 0) pa_nil)) pa_nil))) (blkOk_by (own := [("_law_lot", 2)]) (by kernel_rfl)) (fun _ _ _ _ _ => (pg_name (i := 2) sc__law_lots.nd rfl (Or.inl rfl))) (fun _ _ _ _ _ => (pts_one (pt_val (pe_call G__law_is_closed (hr.mono (by decide)) rfl m__law_is_closed k__law_is_closed b__law_is_closed .nil pass0 (pa_cons (pv 1) (pa_cons (pv 2) pa_nil)))))) (fun _ _ _ _ _ => (pv 2)))))), ?_⟩
  exact (rs_seq (rs_asg (b := []) (rz_call0 (rz_cons (rz_var 0) rz_nil)) (rg_name 1))
  (rs_ret (rz_frz (rzm_lc (vs := [2]) (ri_any (rz_call0 (rz_cons (rz_call0 (rz_cons (rz_var 0) rz_nil)) rz_nil))) (rg_name 2) (rt_B (rz_call0 (rz_cons (rz_var 1) (rz_cons (rz_var 2) rz_nil)))) (rz_var 2)))))
theorem ok__law_lots (T : Txt K mg C) : FnX P w K mg base 4 ["_law_cells_here"] (SpF (uv K C) 1 F__law_lots) (fun f => mg "_law_lots" = some (.ref f)) := by
  obtain ⟨f, fd, F0, m0⟩ := T.d__law_lots
  exact ⟨f, fd, okd__law_lots T F0, m0, F0.kp, F0.bindsN fun _ _ _ _ _ _ us hl => match us, hl with | [_], _ => rfl⟩
theorem sc__law_led : FnScope ["_law_cells_here", "_law_found", "_law_at", "_law_place"] ["_law_cells_here"] (defScope s__law_led) := ⟨rfl, rfl, rfl, by decide +kernel, rfl, by decide +kernel, by decide +kernel⟩
abbrev B__law_led_L1 : ML.Env → SO :=
  (asgF (op2F (varF 1) (frzF (lcM [3] (rng1F (cbF (consF (op2F (varF 0) (cF (.int 0)) ixD) nilF) (lenA 0 F_Board___len__))) (gnF 3) (testF (op2F (op2F (op2F (varF 0) (varF 2) ixD) (varF 3) ixD) (cF (.str ".")) neD)) (tupF (consF (varF 2) (consF (varF 3) nilF))))) addD) (gnF 1))
def B__law_led : ML.Env → SO :=
  (seqF (asgF (frzF (lstM nilF)) (gnF 1))
  (seqF (forS (rng1F (cbF (consF (varF 0) nilF) (lenA 0 F_Board___len__))) (gnF 2) B__law_led_L1)
  (retF (varF 1))))
def F__law_led : List D → Rt := runF 4 B__law_led
theorem okd__law_led (T : Txt K mg C) {f : Addr} {fd : FuncData} (F0 : FunD K "_law_led" "_law_led" (defArgs s__law_led) (defBody s__law_led) (defScope s__law_led) [] [] f fd) : FnOk P w K mg base CX0 3 f fd ["_law_cells_here"] (SpF (uv K C) 1 F__law_led) := by
  obtain ⟨f_Board___len__, fd_Board___len__, G_Board___len__, m_Board___len__, k_Board___len__, b_Board___len__⟩ := ok_Board___len__ (P := P) (w := w) (base := base) T
  refine okF (u := uv K C) rfl F0 sc__law_led rfl fun cdv A outer s H E hr => ⟨_, (pss_cons (ps_set (i := 1) sc__law_led.nd rfl (Or.inl rfl) (pe_lst pa_nil))
  (pss_cons (ps_for PassesOwn.never rfl (pi_range1 rfl T.n_range (pa_cons (pe_callB (r := MH.rLenA K C (SpF (uv K C) 1 F_Board___len__)) (MH.call_lenA m_Board___len__ G_Board___len__ (hr.mono (by decide)) b_Board___len__) rfl T.n_len (by decide +kernel) (pa_cons (pv 0) pa_nil)) pa_nil)) (pg_name (i := 2) sc__law_led.nd rfl (Or.inr rfl)) (pss_one (ps_set (i := 1) sc__law_led.nd rfl (Or.inl rfl) (pe_op (r := MH.rAddA K) MH.op_addA (pv 1) (pe_lc (own := [("_law_place", 3)]) rfl sc__law_led.nd (pi_range1 rfl T.n_range (pa_cons (pe_callB (r := MH.rLenA K C (SpF (uv K C) 1 F_Board___len__)) (MH.call_lenA m_Board___len__ G_Board___len__ (hr.mono (by decide)) b_Board___len__) rfl T.n_len (by decide +kernel) (pa_cons (pe_ix (r := rIx K) ix_seq (pv 0) pe_int (fun _ _ => rfl)) pa_nil)) pa_nil)) (blkOk_by (own := [("_law_place", 3)]) (by kernel_rfl)) (fun _ _ _ _ _ => (pg_name (i := 3) sc__law_led.nd rfl (Or.inl rfl))) (fun _ _ _ _ _ => (pts_one (pt_cmpR (r := rNeD K) (op_neD hr.units) (pe_ix (r := rIx K) ix_seq (pe_ix (r := rIx K) ix_seq (pv 0) (pv 2) (fun _ _ => rfl)) (pv 3) (fun _ _ => rfl)) pe_str (nomark _)))) (fun _ _ _ _ _ => (pe_tup (pa_cons (pv 2) (pa_cons (pv 3) pa_nil)))))))))
  (pss_one (ps_ret (pv 1))))), ?_⟩
  exact (rs_seq (rs_asg (b := []) (rz_frz (rzm_lst rz_nil)) (rg_name 1))
  (rs_seq (rs_for (b := []) (ri_rng1 (rz_cb (rz_cons (rz_var 0) rz_nil) rc_lenA)) (rg_name 2) (rs_asg (b := []) (rz_op (rz_var 1) (rz_frz (rzm_lc (vs := [3]) (ri_rng1 (rz_cb (rz_cons (rz_op (rz_var 0) rz_int rr_ix) rz_nil) rc_lenA)) (rg_name 3) (rt_test (rz_op (rz_op (rz_op (rz_var 0) (rz_var 2) rr_ix) (rz_var 3) rr_ix) rz_str rr_ne)) (rz_tup (rz_cons (rz_var 2) (rz_cons (rz_var 3) rz_nil))))) rr_add) (rg_name 1)))
  (rs_ret (rz_var 1))))
theorem ok__law_led (T : Txt K mg C) : FnX P w K mg base 3 ["_law_cells_here"] (SpF (uv K C) 1 F__law_led) (fun f => mg "_law_led" = some (.ref f)) := by
  obtain ⟨f, fd, F0, m0⟩ := T.d__law_led
  exact ⟨f, fd, okd__law_led T F0, m0, F0.kp, F0.bindsN fun _ _ _ _ _ _ us hl => match us, hl with | [_], _ => rfl⟩
theorem sc__law_lost : FnScope ["_law_row", "_law_cells_here", "_law_led_there", "_law_some", "_law_k"] ["_law_row", "_law_cells_here"] (defScope s__law_lost) := ⟨rfl, rfl, rfl, by decide +kernel, rfl, by decide +kernel, by decide +kernel⟩
def B__law_lost : ML.Env → SO :=
  (seqF (asgF (callF 1 (consF (varF 1) nilF) F__law_led) (gnF 2))
  (seqF (asgF (frzF (lcM [4] (rng1F (callMF 1 0 (consF (cF (.int 3)) nilF) F__law_taken)) (gnF 4) (testF (op2F (varF 2) (frzF (lstM nilF)) neD)) (op2F (varF 2) (callMF 1 0 (consF (cbF (consF (varF 2) nilF) (lenA 0 F_Board___len__)) nilF) F__law_taken) ixD))) (gnF 3))
  (retF (cbF (consF (op1F (varF 3) sortSetD) nilF) tupleD))))
def F__law_lost : D → List D → RtM := runM 5 B__law_lost
theorem okd__law_lost (T : Txt K mg C) {f : Addr} {fd : FuncData} (F0 : FunD K "_law_lost" "_law_lost" (defArgs s__law_lost) (defBody s__law_lost) (defScope s__law_lost) [] [] f fd) : FnOk P w K mg base CX0 4 f fd ["_law_row", "_law_cells_here"] (SpM (uv K C) 1 F__law_lost) := by
  obtain ⟨f__law_led, fd__law_led, G__law_led, m__law_led, k__law_led, b__law_led⟩ := ok__law_led (P := P) (w := w) (base := base) T
  obtain ⟨f__law_taken, fd__law_taken, G__law_taken, m__law_taken, k__law_taken, b__law_taken⟩ := ok__law_taken (P := P) (w := w) (base := base) T
  obtain ⟨f_Board___len__, fd_Board___len__, G_Board___len__, m_Board___len__, k_Board___len__, b_Board___len__⟩ := ok_Board___len__ (P := P) (w := w) (base := base) T
  refine okM (u := uv K C) rfl F0 sc__law_lost rfl rfl fun cdv A outer s H E hr => ⟨_, (pss_cons (ps_set (i := 2) sc__law_lost.nd rfl (Or.inr rfl) (pe_call G__law_led (hr.mono (by decide)) rfl m__law_led k__law_led b__law_led .nil pass0 (pa_cons (pv 1) pa_nil)))
  (pss_cons (ps_setLc (i := 3) (own := [("_law_k", 4)]) rfl sc__law_lost.nd rfl rfl (sw_true rfl rfl rfl (by decide +kernel)) (pi_range1 rfl T.n_range (pa_cons (pe_call G__law_taken (hr.mono (by decide)) rfl m__law_taken k__law_taken b__law_taken .nil pass0 (pa_cons (pv 0) (pa_cons pe_int pa_nil))) pa_nil)) (blkOk_by (own := [("_law_k", 4)]) (by kernel_rfl)) (fun _ _ _ _ _ => (pg_name (i := 4) sc__law_lost.nd rfl (Or.inl rfl))) (fun _ _ _ _ _ => (pts_one (pt_cmpR (r := rNeD K) (op_neD hr.units) (pv 2) (pe_lst pa_nil) (nomark _)))) (fun _ _ _ _ _ => (pe_ix (r := rIx K) ix_seq (pv 2) (pe_call G__law_taken (hr.mono (by decide)) rfl m__law_taken k__law_taken b__law_taken .nil pass0 (pa_cons (pv 0) (pa_cons (pe_callB (r := MH.rLenA K C (SpF (uv K C) 1 F_Board___len__)) (MH.call_lenA m_Board___len__ G_Board___len__ (hr.mono (by decide)) b_Board___len__) rfl T.n_len (by decide +kernel) (pa_cons (pv 2) pa_nil)) pa_nil))) (fun _ _ => rfl))))
  (pss_one (ps_ret (pe_callTy (r := MH.rTuple K) call_tuple_of rfl T.n_tuple (by decide +kernel) (pa_cons (pe_callB (r := MH.rSortS K P w) (MH.cr_sortS hr rfl) rfl T.n_sorted (by decide +kernel) (pa_cons (pe_callTy (r := MH.rSetS K P w) (MH.cr_setS hr rfl) rfl T.n_set (by decide +kernel) (pa_cons (pv 3) pa_nil)) pa_nil)) pa_nil)))))), ?_⟩
  exact (rs_seq (rs_asg (b := [0]) (rz_call0 (rz_cons (rz_var 1) rz_nil)) (rg_name 2))
  (rs_seq (rs_asg (b := [0]) (rz_frz (rzm_lc (vs := [4]) (ri_rng1 (rz_callM (rz_cons rz_int rz_nil))) (rg_name 4) (rt_test (rz_op (rz_var 2) (rz_frz (rzm_lst rz_nil)) rr_ne)) (rz_op (rz_var 2) (rz_callM (rz_cons (rz_cb (rz_cons (rz_var 2) rz_nil) rc_lenA) rz_nil)) rr_ix))) (rg_name 3))
  (rs_ret (rz_cb (rz_cons (rz_sortSet (rz_var 3)) rz_nil) rc_tuple))))
theorem ok__law_lost (T : Txt K mg C) : FnX P w K mg base 4 ["_law_row", "_law_cells_here"] (SpM (uv K C) 1 F__law_lost) (fun f => mg "_law_lost" = some (.ref f)) := by
  obtain ⟨f, fd, F0, m0⟩ := T.d__law_lost
  exact ⟨f, fd, okd__law_lost T F0, m0, F0.kp, F0.bindsN fun _ _ _ _ _ _ us hl => match us, hl with | [_, _], _ => rfl⟩
theorem sc_is_line : FnScope ["value", "sign"] ["value"] (defScope s_is_line) := ⟨rfl, rfl, rfl, by decide +kernel, rfl, by decide +kernel, by decide +kernel⟩
def B_is_line : ML.Env → SO :=
  (retF (andV (isiF (varF 0) "str") (andV (chainF (cF (.int 1)) (cbF (consF (varF 0) nilF) (lenA 0 F_Board___len__)) (cF (.int 5)) (cmpD fun i j => decide (i ≤ j)) (cmpD fun i j => decide (i ≤ j))) (cbF (consF (frzF (lcM [1] (itF (varF 0)) (gnF 1) tYesF (op2F (varF 1) (cF (.str ".<>x")) inD))) nilF) allD))))
def F_is_line : List D → Rt := runF 2 B_is_line
theorem okd_is_line (T : Txt K mg C) {f : Addr} {fd : FuncData} (F0 : FunD K "is_line" "is_line" (defArgs s_is_line) (defBody s_is_line) (defScope s_is_line) [] [] f fd) : FnOk P w K mg base CX0 3 f fd ["value"] (SpF (uv K C) 1 F_is_line) := by
  obtain ⟨f_Board___len__, fd_Board___len__, G_Board___len__, m_Board___len__, k_Board___len__, b_Board___len__⟩ := ok_Board___len__ (P := P) (w := w) (base := base) T
  obtain ⟨t_MOST_LINES, c_MOST_LINES⟩ := T.c_MOST_LINES
  obtain ⟨t_SIGNS, c_SIGNS⟩ := T.c_SIGNS
  refine okF (u := uv K C) rfl F0 sc_is_line rfl fun cdv A outer s H E hr => ⟨_, (pss_one (ps_ret (pe_and (pe_callB (r := rIsi K) call_isi rfl T.n_isinstance (by decide +kernel) (pa_cons (pv 0) (pa_cons (pe_bltn (v := .ty "str") rfl T.n_str (by decide +kernel) rfl) pa_nil))) (pe_and (pe_chain op_le op_le pe_int (pe_callB (r := MH.rLenA K C (SpF (uv K C) 1 F_Board___len__)) (MH.call_lenA m_Board___len__ G_Board___len__ (hr.mono (by decide)) b_Board___len__) rfl T.n_len (by decide +kernel) (pa_cons (pv 0) pa_nil)) (pe_glob (v := .int 5) rfl c_MOST_LINES ⟨_, rfl⟩)) (pe_one (pe_callB (r := rAll K) (cr_all rfl) rfl T.n_all (by decide +kernel) (pa_cons (pe_lc (own := [("sign", 1)]) rfl sc_is_line.nd (MH.pi_anyK (K := K) rfl (pv 0)) (blkOk_by (own := [("sign", 1)]) (by kernel_rfl)) (fun _ _ _ _ _ => (pg_name (i := 1) sc_is_line.nd rfl (Or.inl rfl))) (fun _ _ _ _ _ => pts_nil) (fun _ _ _ _ _ => (pe_cmpR (r := MH.rInA K) (MH.op_inA hr) (pv 1) (pe_glob (v := .str ".<>x") rfl c_SIGNS ⟨_, rfl⟩) (by rfl)))) pa_nil))))))), ?_⟩
  exact (rs_ret (rz_and (rz_isi (u := uv K C) (rz_var 0) (by decide) fun _ => T.ok_Board) (rz_and (rz_chain rz_int (rz_cb (rz_cons (rz_var 0) rz_nil) rc_lenA) rz_int rr_le rr_le) (rz_cb (rz_cons (rz_frz (rzm_lc (vs := [1]) (ri_any (rz_var 0)) (rg_name 1) rt_yes (rz_op (rz_var 1) rz_str rr_in))) rz_nil) rc_all))))
theorem ok_is_line (T : Txt K mg C) : FnX P w K mg base 3 ["value"] (SpF (uv K C) 1 F_is_line) (fun f => mg "is_line" = some (.ref f)) := by
  obtain ⟨f, fd, F0, m0⟩ := T.d_is_line
  exact ⟨f, fd, okd_is_line T F0, m0, F0.kp, F0.bindsN fun _ _ _ _ _ _ us hl => match us, hl with | [_], _ => rfl⟩
theorem sc_Board___init__ : FnScope ["self", "cells", "line"] ["self", "cells"] (defScope s_Board___init__) := ⟨rfl, rfl, rfl, by decide +kernel, rfl, by decide +kernel, by decide +kernel⟩
def B_Board___init__ : ML.Env → SO :=
  (seqF (ifS (orT (notT (testF (isiF (varF 1) "tuple"))) (notT (testF (chainF (cF (.int 1)) (cbF (consF (varF 1) nilF) (lenA 0 F_Board___len__)) (cF (.int 5)) (cmpD fun i j => decide (i ≤ j)) (cmpD fun i j => decide (i ≤ j)))))) neverF nxF)
  (seqF (ifS (notT (testF (cbF (consF (frzF (lcM [2] (itF (varF 1)) (gnF 2) tYesF (callF 1 (consF (varF 2) nilF) F_is_line))) nilF) allD))) neverF nxF)
  (seqF (ifS (notT (testF (cbF (consF (frzF (lcM [2] (itF (varF 1)) (gnF 2) tYesF (op2F (cbF (consF (varF 2) nilF) (lenA 0 F_Board___len__)) (cbF (consF (op2F (varF 1) (cF (.int 0)) ixD) nilF) (lenA 0 F_Board___len__)) eqD))) nilF) allD))) neverF nxF)
  (sfldF 0 0 "table" (varF 1)))))
def F_Board___init__ : D → List D → RtM := runM 3 B_Board___init__
theorem okd_Board___init__ (T : Txt K mg C) {f : Addr} {fd : FuncData} (F0 : FunD K "__init__" "Board.__init__" (defArgs s_Board___init__) (defBody s_Board___init__) (defScope s_Board___init__) [] [] f fd) : FnOk P w K mg base CX0 4 f fd ["self", "cells"] (SpM (uv K C) 1 F_Board___init__) := by
  obtain ⟨f_Board___len__, fd_Board___len__, G_Board___len__, m_Board___len__, k_Board___len__, b_Board___len__⟩ := ok_Board___len__ (P := P) (w := w) (base := base) T
  obtain ⟨f_is_line, fd_is_line, G_is_line, m_is_line, k_is_line, b_is_line⟩ := ok_is_line (P := P) (w := w) (base := base) T
  obtain ⟨t_MOST_LINES, c_MOST_LINES⟩ := T.c_MOST_LINES
  refine okM (u := uv K C) rfl F0 sc_Board___init__ rfl rfl fun cdv A outer s H E hr => ⟨_, (pss_cons (ps_if (PW.pt (pw_or (pt_not (pt_val (pe_callB (r := rIsi K) call_isi rfl T.n_isinstance (by decide +kernel) (pa_cons (pv 1) (pa_cons (pe_bltn (v := .ty "tuple") rfl T.n_tuple (by decide +kernel) rfl) pa_nil))))) (pw_or1 (pt_not (pt_chain op_le op_le pe_int (pe_callB (r := MH.rLenA K C (SpF (uv K C) 1 F_Board___len__)) (MH.call_lenA m_Board___len__ G_Board___len__ (hr.mono (by decide)) b_Board___len__) rfl T.n_len (by decide +kernel) (pa_cons (pv 1) pa_nil)) (pe_glob (v := .int 5) rfl c_MOST_LINES ⟨_, rfl⟩)))))) (pss_one ps_never) pss_nil)
  (pss_cons (ps_if (pt_not (pt_val (pe_callB (r := rAll K) (cr_all rfl) rfl T.n_all (by decide +kernel) (pa_cons (pe_lc (own := [("line", 2)]) rfl sc_Board___init__.nd (MH.pi_anyK (K := K) rfl (pv 1)) (blkOk_by (own := [("line", 2)]) (by kernel_rfl)) (fun _ _ _ _ _ => (pg_name (i := 2) sc_Board___init__.nd rfl (Or.inl rfl))) (fun _ _ _ _ _ => pts_nil) (fun _ _ _ _ _ => (pe_call G_is_line (hr.mono (by decide)) rfl m_is_line k_is_line b_is_line .nil pass0 (pa_cons (pv 2) pa_nil)))) pa_nil)))) (pss_one ps_never) pss_nil)
  (pss_cons (ps_if (pt_not (pt_val (pe_callB (r := rAll K) (cr_all rfl) rfl T.n_all (by decide +kernel) (pa_cons (pe_lc (own := [("line", 2)]) rfl sc_Board___init__.nd (MH.pi_anyK (K := K) rfl (pv 1)) (blkOk_by (own := [("line", 2)]) (by kernel_rfl)) (fun _ _ _ _ _ => (pg_name (i := 2) sc_Board___init__.nd rfl (Or.inl rfl))) (fun _ _ _ _ _ => pts_nil) (fun _ _ _ _ _ => (pe_cmpR (r := rEqD K) (op_eqD hr.units) (pe_callB (r := MH.rLenA K C (SpF (uv K C) 1 F_Board___len__)) (MH.call_lenA m_Board___len__ G_Board___len__ (hr.mono (by decide)) b_Board___len__) rfl T.n_len (by decide +kernel) (pa_cons (pv 2) pa_nil)) (pe_callB (r := MH.rLenA K C (SpF (uv K C) 1 F_Board___len__)) (MH.call_lenA m_Board___len__ G_Board___len__ (hr.mono (by decide)) b_Board___len__) rfl T.n_len (by decide +kernel) (pa_cons (pe_ix (r := rIx K) ix_seq (pv 1) pe_int (fun _ _ => rfl)) pa_nil)) (nomark _)))) pa_nil)))) (pss_one ps_never) pss_nil)
  (pss_one (ps_fld (pv 0) (pv 1) rfl))))), ?_⟩
  exact (rs_seq (rs_if (rt_or (rt_not (rt_B (rz_isi (u := uv K C) (rz_var 1) (by decide) fun _ => T.ok_Board))) (rt_not (rt_test (rz_chain rz_int (rz_cb (rz_cons (rz_var 1) rz_nil) rc_lenA) rz_int rr_le rr_le)))) rs_never rs_next)
  (rs_seq (rs_if (rt_not (rt_B (rz_cb (rz_cons (rz_frz (rzm_lc (vs := [2]) (ri_any (rz_var 1)) (rg_name 2) rt_yes (rz_call0 (rz_cons (rz_var 2) rz_nil)))) rz_nil) rc_all))) rs_never rs_next)
  (rs_seq (rs_if (rt_not (rt_B (rz_cb (rz_cons (rz_frz (rzm_lc (vs := [2]) (ri_any (rz_var 1)) (rg_name 2) rt_yes (rz_op (rz_cb (rz_cons (rz_var 2) rz_nil) rc_lenA) (rz_cb (rz_cons (rz_op (rz_var 1) rz_int rr_ix) rz_nil) rc_lenA) rr_eq))) rz_nil) rc_all))) rs_never rs_next)
  (rs_fld (u := uv K C) (c := 0) (rz_var 1) T.cls_Board T.na_Board_table))))
theorem ok_Board___init__ (T : Txt K mg C) : FnX P w K mg base 4 ["self", "cells"] (SpM (uv K C) 1 F_Board___init__) (fun f => Mk K C f) := by
  obtain ⟨f, fd, F0, m0⟩ := T.d_Board___init__
  exact ⟨f, fd, okd_Board___init__ T F0, m0, F0.kp, F0.bindsN fun _ _ _ _ _ _ us hl => match us, hl with | [_, _], _ => rfl⟩
theorem sc__law_without : FnScope ["_law_cells_here", "_law_lost_here", "_law_lines", "_law_at", "_law_place", "_law_line"] ["_law_cells_here", "_law_lost_here"] (defScope s__law_without) := ⟨rfl, rfl, rfl, by decide +kernel, rfl, by decide +kernel, by decide +kernel⟩
def B__law_without : ML.Env → SO :=
  (seqF (nestS 2 5 3 4 (itF (varF 0)) (itF (varF 1)) (.str "."))
  (retF (cbF (consF (frzF (lcM [5] (itF (varF 2)) (gnF 5) tYesF (joinF (cF (.str "")) (varF 5)))) nilF) tupleD)))
def F__law_without : List D → Rt := runF 6 B__law_without
theorem okd__law_without (T : Txt K mg C) {f : Addr} {fd : FuncData} (F0 : FunD K "_law_without" "_law_without" (defArgs s__law_without) (defBody s__law_without) (defScope s__law_without) [] [] f fd) : FnOk P w K mg base CX0 1 f fd ["_law_cells_here", "_law_lost_here"] (SpF (uv K C) 2 F__law_without) := by
  refine okF (u := uv K C) rfl F0 sc__law_without rfl fun cdv A outer s H E hr => ⟨_, (pss_cons (ps_setLc (i := 2) (own := [("_law_line", 5)]) rfl sc__law_without.nd rfl rfl (sw_true rfl rfl rfl (by decide +kernel)) (MH.pi_anyK (K := K) rfl (pv 0)) (blkOk_by (own := [("_law_line", 5)]) (by kernel_rfl)) (fun _ _ _ _ _ => (pg_name (i := 5) sc__law_without.nd rfl (Or.inl rfl))) (fun _ _ _ _ _ => pts_nil) (fun _ _ _ _ _ => (pe_callTy (r := MH.rListX K) (MH.cr_listX rfl) rfl T.n_list (by decide +kernel) (pa_cons (pv 5) pa_nil))))
  (pss_cons (ps_for PassesOwn.never rfl (MH.pi_anyK (K := K) rfl (pv 1)) (MH.pg_tupK (K := K) (n := 2) rfl rfl (pgs_cons (pg_name (i := 3) sc__law_without.nd rfl (Or.inl rfl)) (pgs_cons (pg_name (i := 4) sc__law_without.nd rfl (Or.inl rfl)) pgs_nil))) (pss_one (ps_asg pe_str (pg_sub (pe_ix (r := rIx K) ix_seq (pv 2) (pv 3) (fun _ _ => rfl)) (pv 4) set_list))))
  (pss_one (ps_ret (pe_callTy (r := MH.rTuple K) call_tuple_of rfl T.n_tuple (by decide +kernel) (pa_cons (pe_lc (own := [("_law_line", 5)]) rfl sc__law_without.nd (MH.pi_anyK (K := K) rfl (pv 2)) (blkOk_by (own := [("_law_line", 5)]) (by kernel_rfl)) (fun _ _ _ _ _ => (pg_name (i := 5) sc__law_without.nd rfl (Or.inl rfl))) (fun _ _ _ _ _ => pts_nil) (fun _ _ _ _ _ => (MH.pe_joinK (K := K) rfl pe_str (pv 5)))) pa_nil)))))), ?_⟩
  exact (rs_seq2 (rs_nest (b := []) (i := 2) (j := 5) (r := 3) (c := 4) (ri_any (rz_var 0)) (ri_any (rz_var 1)) (fun _ => rep_str.mpr rfl))
  (rs_ret (rz_cb (rz_cons (rz_frz (rzm_lc (vs := [5]) (ri_any (rz_var 2)) (rg_name 5) rt_yes (rz_joinK rz_str (rz_var 5)))) rz_nil) rc_tuple)))
theorem ok__law_without (T : Txt K mg C) : FnX P w K mg base 1 ["_law_cells_here", "_law_lost_here"] (SpF (uv K C) 2 F__law_without) (fun f => mg "_law_without" = some (.ref f)) := by
  obtain ⟨f, fd, F0, m0⟩ := T.d__law_without
  exact ⟨f, fd, okd__law_without T F0, m0, F0.kp, F0.bindsN fun _ _ _ _ _ _ us hl => match us, hl with | [_, _], _ => rfl⟩
theorem sc_Board_cells : FnScope ["self"] ["self"] (defScope s_Board_cells) := ⟨rfl, rfl, rfl, by decide +kernel, rfl, by decide +kernel, by decide +kernel⟩
def B_Board_cells : ML.Env → SO :=
  (retF (fldF (varF 0) 0 "table"))
def F_Board_cells : List D → Rt := runF 1 B_Board_cells
theorem okd_Board_cells (T : Txt K mg C) {f : Addr} {fd : FuncData} (F0 : FunD K "cells" "Board.cells" (defArgs s_Board_cells) (defBody s_Board_cells) (defScope s_Board_cells) [] [] f fd) : FnOk P w K mg base CX0 1 f fd ["self"] (SpF (uv K C) 1 F_Board_cells) := by
  refine okF (u := uv K C) rfl F0 sc_Board_cells rfl fun cdv A outer s H E hr => ⟨_, (pss_one (ps_ret (MH.pe_fldK (K := K) rfl (pv 0) rfl))), ?_⟩
  exact (rs_ret (rz_fld (u := uv K C) (c := 0) (rz_var 0) T.cls_Board T.na_Board_table))
theorem ok_Board_cells (T : Txt K mg C) : FnX P w K mg base 1 ["self"] (SpF (uv K C) 1 F_Board_cells) (fun f => ∃ p, PropOf K C "cells" p f) := by
  obtain ⟨f, fd, F0, m0⟩ := T.d_Board_cells
  exact ⟨f, fd, okd_Board_cells T F0, m0, F0.kp, F0.bindsN fun _ _ _ _ _ _ us hl => match us, hl with | [_], _ => rfl⟩
theorem sc_need_board : FnScope ["board"] ["board"] (defScope s_need_board) := ⟨rfl, rfl, rfl, by decide +kernel, rfl, by decide +kernel, by decide +kernel⟩
def B_need_board : ML.Env → SO :=
  (ifS (notT (testF (isoF (varF 0) 0))) neverF nxF)
def F_need_board : List D → Rt := runF 1 B_need_board
theorem okd_need_board (T : Txt K mg C) {f : Addr} {fd : FuncData} (F0 : FunD K "need_board" "need_board" (defArgs s_need_board) (defBody s_need_board) (defScope s_need_board) [] [] f fd) : FnOk P w K mg base CX0 1 f fd ["board"] (SpF (uv K C) 1 F_need_board) := by
  refine okF (u := uv K C) rfl F0 sc_need_board rfl fun cdv A outer s H E hr => ⟨_, (pss_one (ps_if (pt_not (pt_val (pe_callB (r := rIsi K) call_isi rfl T.n_isinstance (by decide +kernel) (pa_cons (pv 0) (pa_cons (pe_glob (v := .ref C) rfl T.mg_Board rfl) pa_nil))))) (pss_one ps_never) pss_nil)), ?_⟩
  exact (rs_if (rt_not (rt_B (rz_iso (u := uv K C) (c := 0) (rz_var 0) T.ok_Board))) rs_never rs_next)
theorem ok_need_board (T : Txt K mg C) : FnX P w K mg base 1 ["board"] (SpF (uv K C) 1 F_need_board) (fun f => mg "need_board" = some (.ref f)) := by
  obtain ⟨f, fd, F0, m0⟩ := T.d_need_board
  exact ⟨f, fd, okd_need_board T F0, m0, F0.kp, F0.bindsN fun _ _ _ _ _ _ us hl => match us, hl with | [_], _ => rfl⟩
theorem sc_led_cells : FnScope ["board", "found", "row", "line", "column", "sign"] ["board"] (defScope s_led_cells) := ⟨rfl, rfl, rfl, by decide +kernel, rfl, by decide +kernel, by decide +kernel⟩
abbrev B_led_cells_L1 : ML.Env → SO :=
  (extF 1 (frzF (lcM [4, 5] (enF (varF 3)) (gtupF 2 (gconsF (gnF 4) (gconsF (gnF 5) gnilF))) (testF (op2F (varF 5) (cF (.str ".")) neD)) (tupF (consF (varF 2) (consF (varF 4) nilF))))))
def B_led_cells : ML.Env → SO :=
  (seqF (setM (lstM nilF) 1)
  (seqF (forS (enF (propF (varF 0) 0 F_Board_cells)) (gtupF 2 (gconsF (gnF 2) (gconsF (gnF 3) gnilF))) B_led_cells_L1)
  (retF (varF 1))))
def F_led_cells : List D → Rt := runF 6 B_led_cells
theorem okd_led_cells (T : Txt K mg C) {f : Addr} {fd : FuncData} (F0 : FunD K "led_cells" "led_cells" (defArgs s_led_cells) (defBody s_led_cells) (defScope s_led_cells) [] [] f fd) : FnOk P w K mg base CX0 3 f fd ["board"] (SpF (uv K C) 1 F_led_cells) := by
  obtain ⟨f_Board_cells, fd_Board_cells, G_Board_cells, ⟨p_Board_cells, m_Board_cells⟩, k_Board_cells, b_Board_cells⟩ := ok_Board_cells (P := P) (w := w) (base := base) T
  obtain ⟨t_EMPTY, c_EMPTY⟩ := T.c_EMPTY
  refine okF (u := uv K C) rfl F0 sc_led_cells rfl fun cdv A outer s H E hr => ⟨_, (pss_cons (ps_set (i := 1) sc_led_cells.nd rfl (Or.inl rfl) (pe_lst pa_nil))
  (pss_cons (ps_for PassesOwn.never rfl (MH.pi_enumK (K := K) rfl rfl T.n_enumerate (pa_cons (MH.pe_propK (K := K) rfl (pv 0) T.cls_Board m_Board_cells G_Board_cells (hr.mono (by decide)) b_Board_cells pass0 rfl) pa_nil)) (MH.pg_tupK (K := K) (n := 2) rfl rfl (pgs_cons (pg_name (i := 2) sc_led_cells.nd rfl (Or.inr rfl)) (pgs_cons (pg_name (i := 3) sc_led_cells.nd rfl (Or.inl rfl)) pgs_nil))) (pss_one (ps_expr (pe_bm PySem.F.plainAttrs_list PySem.F.slot_list_extend PySem.F.type_list_extend mt_extend (pv 1) (pa_cons (pe_lc (own := [("column", 4), ("sign", 5)]) rfl sc_led_cells.nd (MH.pi_enumK (K := K) rfl rfl T.n_enumerate (pa_cons (pv 3) pa_nil)) (blkOk_by (own := [("column", 4), ("sign", 5)]) (by kernel_rfl)) (fun _ _ _ _ _ => (MH.pg_tupK (K := K) (n := 2) rfl rfl (pgs_cons (pg_name (i := 4) sc_led_cells.nd rfl (Or.inl rfl)) (pgs_cons (pg_name (i := 5) sc_led_cells.nd rfl (Or.inl rfl)) pgs_nil)))) (fun _ _ _ _ _ => (pts_one (pt_cmpR (r := rNeD K) (op_neD hr.units) (pv 5) (pe_glob (v := .str ".") rfl c_EMPTY ⟨_, rfl⟩) (nomark _)))) (fun _ _ _ _ _ => (pe_tup (pa_cons (pv 2) (pa_cons (pv 4) pa_nil))))) pa_nil)))))
  (pss_one (ps_ret (pv 1))))), ?_⟩
  exact (rs_seq (rs_setM (b := []) (rzm_lst rz_nil))
  (rs_seq (rs_for (b := []) (ri_enum (rz_prop (u := uv K C) (c := 0) (rz_var 0))) (rg_tup (rgs_cons (rg_name 2) (rgs_cons (rg_name 3) rgs_nil))) (rs_ext (rz_frz (rzm_lc (vs := [4, 5]) (ri_enum (rz_var 3)) (rg_tup (rgs_cons (rg_name 4) (rgs_cons (rg_name 5) rgs_nil))) (rt_test (rz_op (rz_var 5) rz_str rr_ne)) (rz_tup (rz_cons (rz_var 2) (rz_cons (rz_var 4) rz_nil)))))))
  (rs_ret (rz_var 1))))
theorem ok_led_cells (T : Txt K mg C) : FnX P w K mg base 3 ["board"] (SpF (uv K C) 1 F_led_cells) (fun f => mg "led_cells" = some (.ref f)) := by
  obtain ⟨f, fd, F0, m0⟩ := T.d_led_cells
  exact ⟨f, fd, okd_led_cells T F0, m0, F0.kp, F0.bindsN fun _ _ _ _ _ _ us hl => match us, hl with | [_], _ => rfl⟩
theorem sc_is_cell : FnScope ["value", "number"] ["value"] (defScope s_is_cell) := ⟨rfl, rfl, rfl, by decide +kernel, rfl, by decide +kernel, by decide +kernel⟩
def B_is_cell : ML.Env → SO :=
  (seqF (ifS (orT (notT (testF (isiF (varF 0) "tuple"))) (testF (op2F (cbF (consF (varF 0) nilF) (lenA 0 F_Board___len__)) (cF (.int 2)) neD))) (retF (cF (.bl false))) nxF)
  (retF (cbF (consF (frzF (lcM [1] (itF (varF 0)) (gnF 1) tYesF (andV (isiF (varF 1) "int") (notV (isiF (varF 1) "bool"))))) nilF) allD)))
def F_is_cell : List D → Rt := runF 2 B_is_cell
theorem okd_is_cell (T : Txt K mg C) {f : Addr} {fd : FuncData} (F0 : FunD K "is_cell" "is_cell" (defArgs s_is_cell) (defBody s_is_cell) (defScope s_is_cell) [] [] f fd) : FnOk P w K mg base CX0 3 f fd ["value"] (SpF (uv K C) 1 F_is_cell) := by
  obtain ⟨f_Board___len__, fd_Board___len__, G_Board___len__, m_Board___len__, k_Board___len__, b_Board___len__⟩ := ok_Board___len__ (P := P) (w := w) (base := base) T
  refine okF (u := uv K C) rfl F0 sc_is_cell rfl fun cdv A outer s H E hr => ⟨_, (pss_cons (ps_if (PW.pt (pw_or (pt_not (pt_val (pe_callB (r := rIsi K) call_isi rfl T.n_isinstance (by decide +kernel) (pa_cons (pv 0) (pa_cons (pe_bltn (v := .ty "tuple") rfl T.n_tuple (by decide +kernel) rfl) pa_nil))))) (pw_or1 (pt_cmpR (r := rNeD K) (op_neD hr.units) (pe_callB (r := MH.rLenA K C (SpF (uv K C) 1 F_Board___len__)) (MH.call_lenA m_Board___len__ G_Board___len__ (hr.mono (by decide)) b_Board___len__) rfl T.n_len (by decide +kernel) (pa_cons (pv 0) pa_nil)) pe_int (nomark _))))) (pss_one (ps_ret pe_bl)) pss_nil)
  (pss_one (ps_ret (pe_callB (r := rAll K) (cr_all rfl) rfl T.n_all (by decide +kernel) (pa_cons (pe_lc (own := [("number", 1)]) rfl sc_is_cell.nd (MH.pi_anyK (K := K) rfl (pv 0)) (blkOk_by (own := [("number", 1)]) (by kernel_rfl)) (fun _ _ _ _ _ => (pg_name (i := 1) sc_is_cell.nd rfl (Or.inl rfl))) (fun _ _ _ _ _ => pts_nil) (fun _ _ _ _ _ => (pe_and (pe_callB (r := rIsi K) call_isi rfl T.n_isinstance (by decide +kernel) (pa_cons (pv 1) (pa_cons (pe_bltn (v := .ty "int") rfl T.n_int (by decide +kernel) rfl) pa_nil))) (pe_one (pe_not (pe_callB (r := rIsi K) call_isi rfl T.n_isinstance (by decide +kernel) (pa_cons (pv 1) (pa_cons (pe_bltn (v := .ty "bool") rfl T.n_bool (by decide +kernel) rfl) pa_nil)))))))) pa_nil))))), ?_⟩
  exact (rs_seq (rs_if (rt_or (rt_not (rt_B (rz_isi (u := uv K C) (rz_var 0) (by decide) fun _ => T.ok_Board))) (rt_test (rz_op (rz_cb (rz_cons (rz_var 0) rz_nil) rc_lenA) rz_int rr_ne))) (rs_ret rz_bl) rs_next)
  (rs_ret (rz_cb (rz_cons (rz_frz (rzm_lc (vs := [1]) (ri_any (rz_var 0)) (rg_name 1) rt_yes (rz_and (rz_isi (u := uv K C) (rz_var 1) (by decide) fun _ => T.ok_Board) (rz_not (rz_isi (u := uv K C) (rz_var 1) (by decide) fun _ => T.ok_Board))))) rz_nil) rc_all)))
theorem ok_is_cell (T : Txt K mg C) : FnX P w K mg base 3 ["value"] (SpF (uv K C) 1 F_is_cell) (fun f => mg "is_cell" = some (.ref f)) := by
  obtain ⟨f, fd, F0, m0⟩ := T.d_is_cell
  exact ⟨f, fd, okd_is_cell T F0, m0, F0.kp, F0.bindsN fun _ _ _ _ _ _ us hl => match us, hl with | [_], _ => rfl⟩
theorem sc_need_break : FnScope ["board", "value", "known", "index", "cell"] ["board", "value"] (defScope s_need_break) := ⟨rfl, rfl, rfl, by decide +kernel, rfl, by decide +kernel, by decide +kernel⟩
abbrev B_need_break_L1 : ML.Env → SO :=
  (ifS (orT (notT (testF (callF 1 (consF (varF 4) nilF) F_is_cell))) (orT (testF (op2F (varF 4) (varF 2) notInD)) (andT (testF (op2F (varF 3) (cF (.int 0)) (cmpD fun i j => decide (j < i)))) (testF (op2F (varF 4) (op2F (varF 1) (op2F (varF 3) (cF (.int 1)) subD) ixD) (tupCD leTI)))))) neverF nxF)
def B_need_break : ML.Env → SO :=
  (seqF (ifS (notT (testF (isiF (varF 1) "tuple"))) neverF nxF)
  (seqF (asgF (callF 1 (consF (varF 0) nilF) F_led_cells) (gnF 2))
  (forS (enF (varF 1)) (gtupF 2 (gconsF (gnF 3) (gconsF (gnF 4) gnilF))) B_need_break_L1)))
def F_need_break : List D → Rt := runF 5 B_need_break
theorem okd_need_break (T : Txt K mg C) {f : Addr} {fd : FuncData} (F0 : FunD K "need_break" "need_break" (defArgs s_need_break) (defBody s_need_break) (defScope s_need_break) [] [] f fd) : FnOk P w K mg base CX0 4 f fd ["board", "value"] (SpF (uv K C) 2 F_need_break) := by
  obtain ⟨f_led_cells, fd_led_cells, G_led_cells, m_led_cells, k_led_cells, b_led_cells⟩ := ok_led_cells (P := P) (w := w) (base := base) T
  obtain ⟨f_is_cell, fd_is_cell, G_is_cell, m_is_cell, k_is_cell, b_is_cell⟩ := ok_is_cell (P := P) (w := w) (base := base) T
  refine okF (u := uv K C) rfl F0 sc_need_break rfl fun cdv A outer s H E hr => ⟨_, (pss_cons (ps_if (pt_not (pt_val (pe_callB (r := rIsi K) call_isi rfl T.n_isinstance (by decide +kernel) (pa_cons (pv 1) (pa_cons (pe_bltn (v := .ty "tuple") rfl T.n_tuple (by decide +kernel) rfl) pa_nil))))) (pss_one ps_never) pss_nil)
  (pss_cons (ps_set (i := 2) sc_need_break.nd rfl (Or.inl rfl) (pe_call G_led_cells (hr.mono (by decide)) rfl m_led_cells k_led_cells b_led_cells .nil pass0 (pa_cons (pv 0) pa_nil)))
  (pss_one (ps_for PassesOwn.never rfl (MH.pi_enumK (K := K) rfl rfl T.n_enumerate (pa_cons (pv 1) pa_nil)) (MH.pg_tupK (K := K) (n := 2) rfl rfl (pgs_cons (pg_name (i := 3) sc_need_break.nd rfl (Or.inl rfl)) (pgs_cons (pg_name (i := 4) sc_need_break.nd rfl (Or.inl rfl)) pgs_nil))) (pss_one (ps_if (PW.pt (pw_or (pt_not (pt_val (pe_call G_is_cell (hr.mono (by decide)) rfl m_is_cell k_is_cell b_is_cell .nil pass0 (pa_cons (pv 4) pa_nil)))) (pw_or (pt_cmpR (r := MH.rNotInA K) (MH.op_notInA hr) (pv 4) (pv 2) (by rfl)) (pw_or1 (PW.pt (pw_and (pt_cmpR op_gt (pv 3) pe_int (nomark _)) (pw_and1 (pt_cmpR (r := rLeT K) (op_leT hr.units0) (pv 4) (pe_ix (r := rIx K) ix_seq (pv 1) (pe_op op_sub (pv 3) pe_int) (fun _ _ => rfl)) (nomark _))))))))) (pss_one ps_never) pss_nil)))))), ?_⟩
  exact (rs_seq (rs_if (rt_not (rt_B (rz_isi (u := uv K C) (rz_var 1) (by decide) fun _ => T.ok_Board))) rs_never rs_next)
  (rs_seq (rs_asg (b := []) (rz_call0 (rz_cons (rz_var 0) rz_nil)) (rg_name 2))
  (rs_for (b := []) (ri_enum (rz_var 1)) (rg_tup (rgs_cons (rg_name 3) (rgs_cons (rg_name 4) rgs_nil))) (rs_if (rt_or (rt_not (rt_B (rz_call0 (rz_cons (rz_var 4) rz_nil)))) (rt_or (rt_test (rz_op (rz_var 4) (rz_var 2) rr_notIn)) (rt_and (rt_test (rz_op (rz_var 3) rz_int rr_gt)) (rt_test (rz_op (rz_var 4) (rz_op (rz_var 1) (rz_op (rz_var 3) rz_int rr_sub) rr_ix) rr_leT))))) rs_never rs_next))))
theorem ok_need_break (T : Txt K mg C) : FnX P w K mg base 4 ["board", "value"] (SpF (uv K C) 2 F_need_break) (fun f => mg "need_break" = some (.ref f)) := by
  obtain ⟨f, fd, F0, m0⟩ := T.d_need_break
  exact ⟨f, fd, okd_need_break T F0, m0, F0.kp, F0.bindsN fun _ _ _ _ _ _ us hl => match us, hl with | [_, _], _ => rfl⟩
theorem sc_is_from : FnScope ["value", "low", "high"] ["value", "low", "high"] (defScope s_is_from) := ⟨rfl, rfl, rfl, by decide +kernel, rfl, by decide +kernel, by decide +kernel⟩
def B_is_from : ML.Env → SO :=
  (retF (andV (isiF (varF 0) "int") (andV (notV (isiF (varF 0) "bool")) (chainF (varF 1) (varF 0) (varF 2) (cmpD fun i j => decide (i ≤ j)) (cmpD fun i j => decide (i ≤ j))))))
def F_is_from : List D → Rt := runF 3 B_is_from
theorem okd_is_from (T : Txt K mg C) {f : Addr} {fd : FuncData} (F0 : FunD K "is_from" "is_from" (defArgs s_is_from) (defBody s_is_from) (defScope s_is_from) [] [] f fd) : FnOk P w K mg base CX0 1 f fd ["value", "low", "high"] (SpF (uv K C) 3 F_is_from) := by
  refine okF (u := uv K C) rfl F0 sc_is_from rfl fun cdv A outer s H E hr => ⟨_, (pss_one (ps_ret (pe_and (pe_callB (r := rIsi K) call_isi rfl T.n_isinstance (by decide +kernel) (pa_cons (pv 0) (pa_cons (pe_bltn (v := .ty "int") rfl T.n_int (by decide +kernel) rfl) pa_nil))) (pe_and (pe_not (pe_callB (r := rIsi K) call_isi rfl T.n_isinstance (by decide +kernel) (pa_cons (pv 0) (pa_cons (pe_bltn (v := .ty "bool") rfl T.n_bool (by decide +kernel) rfl) pa_nil)))) (pe_one (pe_chain op_le op_le (pv 1) (pv 0) (pv 2))))))), ?_⟩
  exact (rs_ret (rz_and (rz_isi (u := uv K C) (rz_var 0) (by decide) fun _ => T.ok_Board) (rz_and (rz_not (rz_isi (u := uv K C) (rz_var 0) (by decide) fun _ => T.ok_Board)) (rz_chain (rz_var 1) (rz_var 0) (rz_var 2) rr_le rr_le))))
theorem ok_is_from (T : Txt K mg C) : FnX P w K mg base 1 ["value", "low", "high"] (SpF (uv K C) 3 F_is_from) (fun f => mg "is_from" = some (.ref f)) := by
  obtain ⟨f, fd, F0, m0⟩ := T.d_is_from
  exact ⟨f, fd, okd_is_from T F0, m0, F0.kp, F0.bindsN fun _ _ _ _ _ _ us hl => match us, hl with | [_, _, _], _ => rfl⟩
theorem sc_is_thread : FnScope ["board", "value"] ["board", "value"] (defScope s_is_thread) := ⟨rfl, rfl, rfl, by decide +kernel, rfl, by decide +kernel, by decide +kernel⟩
def B_is_thread : ML.Env → SO :=
  (retF (callF 3 (consF (varF 1) (consF (cF (.int 0)) (consF (op2F (cbF (consF (varF 0) nilF) (lenA 0 F_Board___len__)) (cF (.int 1)) subD) nilF))) F_is_from))
def F_is_thread : List D → Rt := runF 2 B_is_thread
theorem okd_is_thread (T : Txt K mg C) {f : Addr} {fd : FuncData} (F0 : FunD K "is_thread" "is_thread" (defArgs s_is_thread) (defBody s_is_thread) (defScope s_is_thread) [] [] f fd) : FnOk P w K mg base CX0 3 f fd ["board", "value"] (SpF (uv K C) 2 F_is_thread) := by
  obtain ⟨f_is_from, fd_is_from, G_is_from, m_is_from, k_is_from, b_is_from⟩ := ok_is_from (P := P) (w := w) (base := base) T
  obtain ⟨f_Board___len__, fd_Board___len__, G_Board___len__, m_Board___len__, k_Board___len__, b_Board___len__⟩ := ok_Board___len__ (P := P) (w := w) (base := base) T
  refine okF (u := uv K C) rfl F0 sc_is_thread rfl fun cdv A outer s H E hr => ⟨_, (pss_one (ps_ret (pe_call G_is_from (hr.mono (by decide)) rfl m_is_from k_is_from b_is_from .nil pass0 (pa_cons (pv 1) (pa_cons pe_int (pa_cons (pe_op op_sub (pe_callB (r := MH.rLenA K C (SpF (uv K C) 1 F_Board___len__)) (MH.call_lenA m_Board___len__ G_Board___len__ (hr.mono (by decide)) b_Board___len__) rfl T.n_len (by decide +kernel) (pa_cons (pv 0) pa_nil)) pe_int) pa_nil)))))), ?_⟩
  exact (rs_ret (rz_call0 (rz_cons (rz_var 1) (rz_cons rz_int (rz_cons (rz_op (rz_cb (rz_cons (rz_var 0) rz_nil) rc_lenA) rz_int rr_sub) rz_nil)))))
theorem ok_is_thread (T : Txt K mg C) : FnX P w K mg base 3 ["board", "value"] (SpF (uv K C) 2 F_is_thread) (fun f => mg "is_thread" = some (.ref f)) := by
  obtain ⟨f, fd, F0, m0⟩ := T.d_is_thread
  exact ⟨f, fd, okd_is_thread T F0, m0, F0.kp, F0.bindsN fun _ _ _ _ _ _ us hl => match us, hl with | [_, _], _ => rfl⟩
theorem sc_need_thread : FnScope ["board", "thread"] ["board", "thread"] (defScope s_need_thread) := ⟨rfl, rfl, rfl, by decide +kernel, rfl, by decide +kernel, by decide +kernel⟩
def B_need_thread : ML.Env → SO :=
  (ifS (notT (testF (callF 2 (consF (varF 0) (consF (varF 1) nilF)) F_is_thread))) neverF nxF)
def F_need_thread : List D → Rt := runF 2 B_need_thread
theorem okd_need_thread (T : Txt K mg C) {f : Addr} {fd : FuncData} (F0 : FunD K "need_thread" "need_thread" (defArgs s_need_thread) (defBody s_need_thread) (defScope s_need_thread) [] [] f fd) : FnOk P w K mg base CX0 4 f fd ["board", "thread"] (SpF (uv K C) 2 F_need_thread) := by
  obtain ⟨f_is_thread, fd_is_thread, G_is_thread, m_is_thread, k_is_thread, b_is_thread⟩ := ok_is_thread (P := P) (w := w) (base := base) T
  refine okF (u := uv K C) rfl F0 sc_need_thread rfl fun cdv A outer s H E hr => ⟨_, (pss_one (ps_if (pt_not (pt_val (pe_call G_is_thread (hr.mono (by decide)) rfl m_is_thread k_is_thread b_is_thread .nil pass0 (pa_cons (pv 0) (pa_cons (pv 1) pa_nil))))) (pss_one ps_never) pss_nil)), ?_⟩
  exact (rs_if (rt_not (rt_B (rz_call0 (rz_cons (rz_var 0) (rz_cons (rz_var 1) rz_nil))))) rs_never rs_next)
theorem ok_need_thread (T : Txt K mg C) : FnX P w K mg base 4 ["board", "thread"] (SpF (uv K C) 2 F_need_thread) (fun f => mg "need_thread" = some (.ref f)) := by
  obtain ⟨f, fd, F0, m0⟩ := T.d_need_thread
  exact ⟨f, fd, okd_need_thread T F0, m0, F0.kp, F0.bindsN fun _ _ _ _ _ _ us hl => match us, hl with | [_, _], _ => rfl⟩
theorem sc_is_lot : FnScope ["board", "value", "thread", "at"] ["board", "value"] (defScope s_is_lot) := ⟨rfl, rfl, rfl, by decide +kernel, rfl, by decide +kernel, by decide +kernel⟩
def B_is_lot : ML.Env → SO :=
  (seqF (ifS (orT (notT (testF (isiF (varF 1) "tuple"))) (notT (testF (cbF (consF (frzF (lcM [2] (itF (varF 1)) (gnF 2) tYesF (callF 2 (consF (varF 0) (consF (varF 2) nilF)) F_is_thread))) nilF) allD)))) (retF (cF (.bl false))) nxF)
  (retF (cbF (consF (frzF (lcM [3] (rng2F (cF (.int 1)) (cbF (consF (varF 1) nilF) (lenA 0 F_Board___len__))) (gnF 3) tYesF (op2F (op2F (varF 1) (op2F (varF 3) (cF (.int 1)) subD) ixD) (op2F (varF 1) (varF 3) ixD) (cmpD fun i j => decide (i < j))))) nilF) allD)))
def F_is_lot : List D → Rt := runF 4 B_is_lot
theorem okd_is_lot (T : Txt K mg C) {f : Addr} {fd : FuncData} (F0 : FunD K "is_lot" "is_lot" (defArgs s_is_lot) (defBody s_is_lot) (defScope s_is_lot) [] [] f fd) : FnOk P w K mg base CX0 4 f fd ["board", "value"] (SpF (uv K C) 2 F_is_lot) := by
  obtain ⟨f_is_thread, fd_is_thread, G_is_thread, m_is_thread, k_is_thread, b_is_thread⟩ := ok_is_thread (P := P) (w := w) (base := base) T
  obtain ⟨f_Board___len__, fd_Board___len__, G_Board___len__, m_Board___len__, k_Board___len__, b_Board___len__⟩ := ok_Board___len__ (P := P) (w := w) (base := base) T
  refine okF (u := uv K C) rfl F0 sc_is_lot rfl fun cdv A outer s H E hr => ⟨_, (pss_cons (ps_if (PW.pt (pw_or (pt_not (pt_val (pe_callB (r := rIsi K) call_isi rfl T.n_isinstance (by decide +kernel) (pa_cons (pv 1) (pa_cons (pe_bltn (v := .ty "tuple") rfl T.n_tuple (by decide +kernel) rfl) pa_nil))))) (pw_or1 (pt_not (pt_val (pe_callB (r := rAll K) (cr_all rfl) rfl T.n_all (by decide +kernel) (pa_cons (pe_lc (own := [("thread", 2)]) rfl sc_is_lot.nd (MH.pi_anyK (K := K) rfl (pv 1)) (blkOk_by (own := [("thread", 2)]) (by kernel_rfl)) (fun _ _ _ _ _ => (pg_name (i := 2) sc_is_lot.nd rfl (Or.inl rfl))) (fun _ _ _ _ _ => pts_nil) (fun _ _ _ _ _ => (pe_call G_is_thread (hr.mono (by decide)) rfl m_is_thread k_is_thread b_is_thread .nil pass0 (pa_cons (pv 0) (pa_cons (pv 2) pa_nil))))) pa_nil))))))) (pss_one (ps_ret pe_bl)) pss_nil)
  (pss_one (ps_ret (pe_callB (r := rAll K) (cr_all rfl) rfl T.n_all (by decide +kernel) (pa_cons (pe_lc (own := [("at", 3)]) rfl sc_is_lot.nd (pi_range2 rfl T.n_range (pa_cons pe_int (pa_cons (pe_callB (r := MH.rLenA K C (SpF (uv K C) 1 F_Board___len__)) (MH.call_lenA m_Board___len__ G_Board___len__ (hr.mono (by decide)) b_Board___len__) rfl T.n_len (by decide +kernel) (pa_cons (pv 1) pa_nil)) pa_nil))) (blkOk_by (own := [("at", 3)]) (by kernel_rfl)) (fun _ _ _ _ _ => (pg_name (i := 3) sc_is_lot.nd rfl (Or.inl rfl))) (fun _ _ _ _ _ => pts_nil) (fun _ _ _ _ _ => (pe_cmpR op_lt (pe_ix (r := rIx K) ix_seq (pv 1) (pe_op op_sub (pv 3) pe_int) (fun _ _ => rfl)) (pe_ix (r := rIx K) ix_seq (pv 1) (pv 3) (fun _ _ => rfl)) (nomark _)))) pa_nil))))), ?_⟩
  exact (rs_seq (rs_if (rt_or (rt_not (rt_B (rz_isi (u := uv K C) (rz_var 1) (by decide) fun _ => T.ok_Board))) (rt_not (rt_B (rz_cb (rz_cons (rz_frz (rzm_lc (vs := [2]) (ri_any (rz_var 1)) (rg_name 2) rt_yes (rz_call0 (rz_cons (rz_var 0) (rz_cons (rz_var 2) rz_nil))))) rz_nil) rc_all)))) (rs_ret rz_bl) rs_next)
  (rs_ret (rz_cb (rz_cons (rz_frz (rzm_lc (vs := [3]) (ri_rng2 rz_int (rz_cb (rz_cons (rz_var 1) rz_nil) rc_lenA)) (rg_name 3) rt_yes (rz_op (rz_op (rz_var 1) (rz_op (rz_var 3) rz_int rr_sub) rr_ix) (rz_op (rz_var 1) (rz_var 3) rr_ix) rr_lt))) rz_nil) rc_all)))
theorem ok_is_lot (T : Txt K mg C) : FnX P w K mg base 4 ["board", "value"] (SpF (uv K C) 2 F_is_lot) (fun f => mg "is_lot" = some (.ref f)) := by
  obtain ⟨f, fd, F0, m0⟩ := T.d_is_lot
  exact ⟨f, fd, okd_is_lot T F0, m0, F0.kp, F0.bindsN fun _ _ _ _ _ _ us hl => match us, hl with | [_, _], _ => rfl⟩
theorem sc_need_lot : FnScope ["board", "lot"] ["board", "lot"] (defScope s_need_lot) := ⟨rfl, rfl, rfl, by decide +kernel, rfl, by decide +kernel, by decide +kernel⟩
def B_need_lot : ML.Env → SO :=
  (seqF (dropF (callF 1 (consF (varF 0) nilF) F_need_board))
  (ifS (notT (testF (callF 2 (consF (varF 0) (consF (varF 1) nilF)) F_is_lot))) neverF nxF))
def F_need_lot : List D → Rt := runF 2 B_need_lot
theorem okd_need_lot (T : Txt K mg C) {f : Addr} {fd : FuncData} (F0 : FunD K "need_lot" "need_lot" (defArgs s_need_lot) (defBody s_need_lot) (defScope s_need_lot) [] [] f fd) : FnOk P w K mg base CX0 5 f fd ["board", "lot"] (SpF (uv K C) 2 F_need_lot) := by
  obtain ⟨f_need_board, fd_need_board, G_need_board, m_need_board, k_need_board, b_need_board⟩ := ok_need_board (P := P) (w := w) (base := base) T
  obtain ⟨f_is_lot, fd_is_lot, G_is_lot, m_is_lot, k_is_lot, b_is_lot⟩ := ok_is_lot (P := P) (w := w) (base := base) T
  refine okF (u := uv K C) rfl F0 sc_need_lot rfl fun cdv A outer s H E hr => ⟨_, (pss_cons (ps_expr (pe_call G_need_board (hr.mono (by decide)) rfl m_need_board k_need_board b_need_board .nil pass0 (pa_cons (pv 0) pa_nil)))
  (pss_one (ps_if (pt_not (pt_val (pe_call G_is_lot (hr.mono (by decide)) rfl m_is_lot k_is_lot b_is_lot .nil pass0 (pa_cons (pv 0) (pa_cons (pv 1) pa_nil))))) (pss_one ps_never) pss_nil))), ?_⟩
  exact (rs_seq (rs_drop (rz_call0 (rz_cons (rz_var 0) rz_nil)))
  (rs_if (rt_not (rt_B (rz_call0 (rz_cons (rz_var 0) (rz_cons (rz_var 1) rz_nil))))) rs_never rs_next))
theorem ok_need_lot (T : Txt K mg C) : FnX P w K mg base 5 ["board", "lot"] (SpF (uv K C) 2 F_need_lot) (fun f => mg "need_lot" = some (.ref f)) := by
  obtain ⟨f, fd, F0, m0⟩ := T.d_need_lot
  exact ⟨f, fd, okd_need_lot T F0, m0, F0.kp, F0.bindsN fun _ _ _ _ _ _ us hl => match us, hl with | [_, _], _ => rfl⟩
theorem sc_all_steps : FnScope ["board", "found", "many", "at", "line", "place", "sign"] ["board"] (defScope s_all_steps) := ⟨rfl, rfl, rfl, by decide +kernel, rfl, by decide +kernel, by decide +kernel⟩
abbrev B_all_steps_L1 : ML.Env → SO :=
  (seqF (ifS (testF (op2F (varF 6) (cF (.str ">x")) inD)) (appF 1 (tupF (consF (varF 3) (consF (op2F (varF 2) (varF 5) addD) nilF)))) nxF)
  (ifS (testF (op2F (varF 6) (cF (.str "<x")) inD)) (appF 1 (tupF (consF (op2F (varF 2) (varF 5) addD) (consF (varF 3) nilF)))) nxF))
abbrev B_all_steps_L2 : ML.Env → SO :=
  (forS (enF (varF 4)) (gtupF 2 (gconsF (gnF 5) (gconsF (gnF 6) gnilF))) B_all_steps_L1)
def B_all_steps : ML.Env → SO :=
  (seqF (parF 1 2 (lstM nilF) (fzM (cbF (consF (fldF (varF 0) 0 "table") nilF) (lenA 0 F_Board___len__))))
  (seqF (forS (enF (fldF (varF 0) 0 "table")) (gtupF 2 (gconsF (gnF 3) (gconsF (gnF 4) gnilF))) B_all_steps_L2)
  (retF (cbF (consF (varF 1) nilF) sortAD))))
def F_all_steps : List D → Rt := runF 7 B_all_steps
theorem okd_all_steps (T : Txt K mg C) {f : Addr} {fd : FuncData} (F0 : FunD K "all_steps" "all_steps" (defArgs s_all_steps) (defBody s_all_steps) (defScope s_all_steps) [] [] f fd) : FnOk P w K mg base CX0 3 f fd ["board"] (SpF (uv K C) 1 F_all_steps) := by
  obtain ⟨f_Board___len__, fd_Board___len__, G_Board___len__, m_Board___len__, k_Board___len__, b_Board___len__⟩ := ok_Board___len__ (P := P) (w := w) (base := base) T
  refine okF (u := uv K C) rfl F0 sc_all_steps rfl fun cdv A outer s H E hr => ⟨_, (pss_cons (ps_par (i := 1) (j := 2) rfl sc_all_steps.nd rfl rfl (by decide) rfl rfl (pa_cons (pe_lst pa_nil) (pa_cons (pe_callB (r := MH.rLenA K C (SpF (uv K C) 1 F_Board___len__)) (MH.call_lenA m_Board___len__ G_Board___len__ (hr.mono (by decide)) b_Board___len__) rfl T.n_len (by decide +kernel) (pa_cons (MH.pe_fldK (K := K) rfl (pv 0) rfl) pa_nil)) pa_nil)) (by rfl))
  (pss_cons (ps_for PassesOwn.never rfl (MH.pi_enumK (K := K) rfl rfl T.n_enumerate (pa_cons (MH.pe_fldK (K := K) rfl (pv 0) rfl) pa_nil)) (MH.pg_tupK (K := K) (n := 2) rfl rfl (pgs_cons (pg_name (i := 3) sc_all_steps.nd rfl (Or.inl rfl)) (pgs_cons (pg_name (i := 4) sc_all_steps.nd rfl (Or.inl rfl)) pgs_nil))) (pss_one (ps_for PassesOwn.never rfl (MH.pi_enumK (K := K) rfl rfl T.n_enumerate (pa_cons (pv 4) pa_nil)) (MH.pg_tupK (K := K) (n := 2) rfl rfl (pgs_cons (pg_name (i := 5) sc_all_steps.nd rfl (Or.inl rfl)) (pgs_cons (pg_name (i := 6) sc_all_steps.nd rfl (Or.inl rfl)) pgs_nil))) (pss_cons (ps_if (pt_cmpR (r := MH.rInA K) (MH.op_inA hr) (pv 6) pe_str (by rfl)) (pss_one (ps_expr (pe_bm PySem.F.plainAttrs_list PySem.F.slot_list_append PySem.F.type_list_append mt_append (pv 1) (pa_cons (pe_tup (pa_cons (pv 3) (pa_cons (pe_op (r := MH.rAddA K) MH.op_addA (pv 2) (pv 5)) pa_nil))) pa_nil)))) pss_nil)
  (pss_one (ps_if (pt_cmpR (r := MH.rInA K) (MH.op_inA hr) (pv 6) pe_str (by rfl)) (pss_one (ps_expr (pe_bm PySem.F.plainAttrs_list PySem.F.slot_list_append PySem.F.type_list_append mt_append (pv 1) (pa_cons (pe_tup (pa_cons (pe_op (r := MH.rAddA K) MH.op_addA (pv 2) (pv 5)) (pa_cons (pv 3) pa_nil))) pa_nil)))) pss_nil))))))
  (pss_one (ps_ret (pe_callB (r := MH.rSortA K) (MH.cr_sortA hr rfl) rfl T.n_sorted (by decide +kernel) (pa_cons (pv 1) pa_nil)))))), ?_⟩
  exact (rs_seq (rs_par (b := []) (rzm_lst rz_nil) (rzm_fz (rz_cb (rz_cons (rz_fld (u := uv K C) (c := 0) (rz_var 0) T.cls_Board T.na_Board_table) rz_nil) rc_lenA)))
  (rs_seq (rs_for (b := []) (ri_enum (rz_fld (u := uv K C) (c := 0) (rz_var 0) T.cls_Board T.na_Board_table)) (rg_tup (rgs_cons (rg_name 3) (rgs_cons (rg_name 4) rgs_nil))) (rs_for (b := []) (ri_enum (rz_var 4)) (rg_tup (rgs_cons (rg_name 5) (rgs_cons (rg_name 6) rgs_nil))) (rs_seq (rs_if (rt_test (rz_op (rz_var 6) rz_str rr_in)) (rs_app (rz_tup (rz_cons (rz_var 3) (rz_cons (rz_op (rz_var 2) (rz_var 5) rr_add) rz_nil)))) rs_next)
  (rs_if (rt_test (rz_op (rz_var 6) rz_str rr_in)) (rs_app (rz_tup (rz_cons (rz_op (rz_var 2) (rz_var 5) rr_add) (rz_cons (rz_var 3) rz_nil)))) rs_next))))
  (rs_ret (rz_cb (rz_cons (rz_var 1) rz_nil) rc_sortA))))
theorem ok_all_steps (T : Txt K mg C) : FnX P w K mg base 3 ["board"] (SpF (uv K C) 1 F_all_steps) (fun f => mg "all_steps" = some (.ref f)) := by
  obtain ⟨f, fd, F0, m0⟩ := T.d_all_steps
  exact ⟨f, fd, okd_all_steps T F0, m0, F0.kp, F0.bindsN fun _ _ _ _ _ _ us hl => match us, hl with | [_], _ => rfl⟩
theorem sc_leads_of : FnScope ["board", "told", "found", "thread", "known", "waiting", "here", "one", "other"] ["board"] (defScope s_leads_of) := ⟨rfl, rfl, rfl, by decide +kernel, rfl, by decide +kernel, by decide +kernel⟩
abbrev B_leads_of_L1 : ML.Env → SO :=
  (ifS (andT (testF (op2F (varF 7) (varF 6) eqD)) (testF (dinPF true 4 (varF 8)))) (seqF (dputF 4 (cF (.bl true)) (varF 8))
  (appF 5 (varF 8))) nxF)
abbrev B_leads_of_L2 : ML.Env → SO :=
  (seqF (asgF (popF 5) (gnF 6))
  (forS (itF (varF 1)) (gtupF 2 (gconsF (gnF 7) (gconsF (gnF 8) gnilF))) B_leads_of_L1))
abbrev B_leads_of_L3 : ML.Env → SO :=
  (seqF (parF 4 5 (done1M (varF 3) (cF (.bl true))) (lstM (consF (varF 3) nilF)))
  (seqF (whF (testF (opPLF 5 (frzF (lstM nilF)) neD)) B_leads_of_L2 fuel)
  (appF 2 (cbF (consF (varF 4) nilF) sortAD))))
def B_leads_of : ML.Env → SO :=
  (seqF (parF 1 2 (fzM (callF 1 (consF (varF 0) nilF) F_all_steps)) (lstM nilF))
  (seqF (forS (rng1F (cbF (consF (varF 0) nilF) (lenA 0 F_Board___len__))) (gnF 3) B_leads_of_L3)
  (retF (varF 2))))
def F_leads_of : List D → Rt := runF 9 B_leads_of
theorem okd_leads_of (T : Txt K mg C) {f : Addr} {fd : FuncData} (F0 : FunD K "leads_of" "leads_of" (defArgs s_leads_of) (defBody s_leads_of) (defScope s_leads_of) [] [] f fd) : FnOk P w K mg base CX0 4 f fd ["board"] (SpF (uv K C) 1 F_leads_of) := by
  obtain ⟨f_all_steps, fd_all_steps, G_all_steps, m_all_steps, k_all_steps, b_all_steps⟩ := ok_all_steps (P := P) (w := w) (base := base) T
  obtain ⟨f_Board___len__, fd_Board___len__, G_Board___len__, m_Board___len__, k_Board___len__, b_Board___len__⟩ := ok_Board___len__ (P := P) (w := w) (base := base) T
  refine okF (u := uv K C) rfl F0 sc_leads_of rfl fun cdv A outer s H E hr => ⟨_, (pss_cons (ps_par (i := 1) (j := 2) rfl sc_leads_of.nd rfl rfl (by decide) rfl rfl (pa_cons (pe_call G_all_steps (hr.mono (by decide)) rfl m_all_steps k_all_steps b_all_steps .nil pass0 (pa_cons (pv 0) pa_nil)) (pa_cons (pe_lst pa_nil) pa_nil)) (by rfl))
  (pss_cons (ps_for PassesOwn.never rfl (pi_range1 rfl T.n_range (pa_cons (pe_callB (r := MH.rLenA K C (SpF (uv K C) 1 F_Board___len__)) (MH.call_lenA m_Board___len__ G_Board___len__ (hr.mono (by decide)) b_Board___len__) rfl T.n_len (by decide +kernel) (pa_cons (pv 0) pa_nil)) pa_nil)) (pg_name (i := 3) sc_leads_of.nd rfl (Or.inl rfl)) (pss_cons (ps_par (i := 4) (j := 5) rfl sc_leads_of.nd rfl rfl (by decide) rfl rfl (pa_cons (pe_disp (pps_cons (pv 3) pe_bl pps_nil) (by rfl) (by rfl) (fun z => by cases z) (by decide)) (pa_cons (pe_lst (pa_cons (pv 3) pa_nil)) pa_nil)) (by rfl))
  (pss_cons (ps_while PassesOwn.never (pt_cmpR (r := rNeD K) (op_neD hr.units) (pv 5) (pe_lst pa_nil) (nomark _)) (pss_cons (ps_set (i := 6) sc_leads_of.nd rfl (Or.inl rfl) (pe_bm0 PySem.F.plainAttrs_list PySem.F.slot_list_pop PySem.F.type_list_pop mt_pop (pv 5)))
  (pss_one (ps_for PassesOwn.never rfl (MH.pi_anyK (K := K) rfl (pv 1)) (MH.pg_tupK (K := K) (n := 2) rfl rfl (pgs_cons (pg_name (i := 7) sc_leads_of.nd rfl (Or.inl rfl)) (pgs_cons (pg_name (i := 8) sc_leads_of.nd rfl (Or.inl rfl)) pgs_nil))) (pss_one (ps_if (PW.pt (pw_and (pt_cmpR (r := rEqD K) (op_eqD hr.units) (pv 7) (pv 6) (nomark _)) (pw_and1 (pt_cmp (pc_dnotin (hu_of hr) (pv 8) (pv 4)))))) (pss_cons (ps_dput (hu_of hr) (pv 4) (pv 8) pe_bl rfl)
  (pss_one (ps_expr (pe_bm PySem.F.plainAttrs_list PySem.F.slot_list_append PySem.F.type_list_append mt_append (pv 5) (pa_cons (pv 8) pa_nil))))) pss_nil))))))
  (pss_one (ps_expr (pe_bm PySem.F.plainAttrs_list PySem.F.slot_list_append PySem.F.type_list_append mt_append (pv 2) (pa_cons (pe_callB (r := MH.rSortA K) (MH.cr_sortA hr rfl) rfl T.n_sorted (by decide +kernel) (pa_cons (pv 4) pa_nil)) pa_nil)))))))
  (pss_one (ps_ret (pv 2))))), ?_⟩
  exact (rs_seq (rs_par (b := []) (rzm_fz (rz_call0 (rz_cons (rz_var 0) rz_nil))) (rzm_lst rz_nil))
  (rs_seq (rs_for (b := []) (ri_rng1 (rz_cb (rz_cons (rz_var 0) rz_nil) rc_lenA)) (rg_name 3) (rs_seq (rs_par (b := []) (rzm_d1 (rz_var 3) rz_bl) (rzm_lst (rz_cons (rz_var 3) rz_nil)))
  (rs_seq (rs_while (rt_test (rz_opPL (rz_frz (rzm_lst rz_nil)) rr_ne)) (rs_seq (rs_asg (b := []) rz_pop (rg_name 6))
  (rs_for (b := []) (ri_any (rz_var 1)) (rg_tup (rgs_cons (rg_name 7) (rgs_cons (rg_name 8) rgs_nil))) (rs_if (rt_and (rt_test (rz_op (rz_var 7) (rz_var 6) rr_eq)) (rt_test (rz_dninP (rz_var 8)))) (rs_seq (rs_dput rz_bl (rz_var 8))
  (rs_app (rz_var 8))) rs_next))))
  (rs_app (rz_cb (rz_cons (rz_var 4) rz_nil) rc_sortA)))))
  (rs_ret (rz_var 2))))
theorem ok_leads_of (T : Txt K mg C) : FnX P w K mg base 4 ["board"] (SpF (uv K C) 1 F_leads_of) (fun f => mg "leads_of" = some (.ref f)) := by
  obtain ⟨f, fd, F0, m0⟩ := T.d_leads_of
  exact ⟨f, fd, okd_leads_of T F0, m0, F0.kp, F0.bindsN fun _ _ _ _ _ _ us hl => match us, hl with | [_], _ => rfl⟩
theorem sc_least_closed : FnScope ["board", "lot", "told", "thread", "goals", "one"] ["board", "lot"] (defScope s_least_closed) := ⟨rfl, rfl, rfl, by decide +kernel, rfl, by decide +kernel, by decide +kernel⟩
def B_least_closed : ML.Env → SO :=
  (seqF (dropF (callF 2 (consF (varF 0) (consF (varF 1) nilF)) F_need_lot))
  (seqF (asgF (callF 1 (consF (varF 0) nilF) F_leads_of) (gnF 2))
  (retF (cbF (consF (frzF (lcM [3, 4] (enF (varF 2)) (gtupF 2 (gconsF (gnF 3) (gconsF (gnF 4) gnilF))) (testF (cbF (consF (frzF (lcM [5] (itF (varF 1)) (gnF 5) tYesF (op2F (varF 5) (varF 4) inD))) nilF) anyD)) (varF 3))) nilF) tupleD))))
def F_least_closed : List D → Rt := runF 6 B_least_closed
theorem okd_least_closed (T : Txt K mg C) {f : Addr} {fd : FuncData} (F0 : FunD K "least_closed" "least_closed" (defArgs s_least_closed) (defBody s_least_closed) (defScope s_least_closed) [] [] f fd) : FnOk P w K mg base CX0 6 f fd ["board", "lot"] (SpF (uv K C) 2 F_least_closed) := by
  obtain ⟨f_need_lot, fd_need_lot, G_need_lot, m_need_lot, k_need_lot, b_need_lot⟩ := ok_need_lot (P := P) (w := w) (base := base) T
  obtain ⟨f_leads_of, fd_leads_of, G_leads_of, m_leads_of, k_leads_of, b_leads_of⟩ := ok_leads_of (P := P) (w := w) (base := base) T
  refine okF (u := uv K C) rfl F0 sc_least_closed rfl fun cdv A outer s H E hr => ⟨_, (pss_cons (ps_expr (pe_call G_need_lot (hr.mono (by decide)) rfl m_need_lot k_need_lot b_need_lot .nil pass0 (pa_cons (pv 0) (pa_cons (pv 1) pa_nil))))
  (pss_cons (ps_set (i := 2) sc_least_closed.nd rfl (Or.inl rfl) (pe_call G_leads_of (hr.mono (by decide)) rfl m_leads_of k_leads_of b_leads_of .nil pass0 (pa_cons (pv 0) pa_nil)))
  (pss_one (ps_ret (pe_callTy (r := MH.rTuple K) call_tuple_of rfl T.n_tuple (by decide +kernel) (pa_cons (pe_lc (own := [("thread", 3), ("goals", 4)]) rfl sc_least_closed.nd (MH.pi_enumK (K := K) rfl rfl T.n_enumerate (pa_cons (pv 2) pa_nil)) (blkOk_by (own := [("thread", 3), ("goals", 4)]) (by kernel_rfl)) (fun _ _ _ _ _ => (MH.pg_tupK (K := K) (n := 2) rfl rfl (pgs_cons (pg_name (i := 3) sc_least_closed.nd rfl (Or.inl rfl)) (pgs_cons (pg_name (i := 4) sc_least_closed.nd rfl (Or.inr rfl)) pgs_nil)))) (fun _ _ _ _ _ => (pts_one (pt_val (pe_callB (r := rAny K) (cr_any rfl) rfl T.n_any (by decide +kernel) (pa_cons (pe_lc (own := [("one", 5)]) rfl sc_least_closed.nd (MH.pi_anyK (K := K) rfl (pv 1)) (blkOk_by (own := [("one", 5)]) (by kernel_rfl)) (fun _ _ _ _ _ => (pg_name (i := 5) sc_least_closed.nd rfl (Or.inl rfl))) (fun _ _ _ _ _ => pts_nil) (fun _ _ _ _ _ => (pe_cmpR (r := MH.rInA K) (MH.op_inA hr) (pv 5) (pv 4) (by rfl)))) pa_nil))))) (fun _ _ _ _ _ => (pv 3))) pa_nil)))))), ?_⟩
  exact (rs_seq (rs_drop (rz_call0 (rz_cons (rz_var 0) (rz_cons (rz_var 1) rz_nil))))
  (rs_seq (rs_asg (b := []) (rz_call0 (rz_cons (rz_var 0) rz_nil)) (rg_name 2))
  (rs_ret (rz_cb (rz_cons (rz_frz (rzm_lc (vs := [3, 4]) (ri_enum (rz_var 2)) (rg_tup (rgs_cons (rg_name 3) (rgs_cons (rg_name 4) rgs_nil))) (rt_B (rz_cb (rz_cons (rz_frz (rzm_lc (vs := [5]) (ri_any (rz_var 1)) (rg_name 5) rt_yes (rz_op (rz_var 5) (rz_var 4) rr_in))) rz_nil) rc_any)) (rz_var 3))) rz_nil) rc_tuple))))
theorem ok_least_closed (T : Txt K mg C) : FnX P w K mg base 6 ["board", "lot"] (SpF (uv K C) 2 F_least_closed) (fun f => mg "least_closed" = some (.ref f)) := by
  obtain ⟨f, fd, F0, m0⟩ := T.d_least_closed
  exact ⟨f, fd, okd_least_closed T F0, m0, F0.kp, F0.bindsN fun _ _ _ _ _ _ us hl => match us, hl with | [_, _], _ => rfl⟩
theorem sc_without : FnScope ["board", "lost", "lines", "row", "column", "line"] ["board", "lost"] (defScope s_without) := ⟨rfl, rfl, rfl, by decide +kernel, rfl, by decide +kernel, by decide +kernel⟩
def B_without : ML.Env → SO :=
  (seqF (nestS 2 5 3 4 (itF (propF (varF 0) 0 F_Board_cells)) (itF (varF 1)) (.str "."))
  (retF (frzF (makeM 0 1 (consF (cbF (consF (frzF (lcM [5] (itF (varF 2)) (gnF 5) tYesF (joinF (cF (.str "")) (varF 5)))) nilF) tupleD) nilF) F_Board___init__))))
def F_without : List D → Rt := runF 6 B_without
theorem okd_without (T : Txt K mg C) {f : Addr} {fd : FuncData} (F0 : FunD K "without" "without" (defArgs s_without) (defBody s_without) (defScope s_without) [] [] f fd) : FnOk P w K mg base CX0 6 f fd ["board", "lost"] (SpF (uv K C) 2 F_without) := by
  obtain ⟨f_Board_cells, fd_Board_cells, G_Board_cells, ⟨p_Board_cells, m_Board_cells⟩, k_Board_cells, b_Board_cells⟩ := ok_Board_cells (P := P) (w := w) (base := base) T
  obtain ⟨f_Board___init__, fd_Board___init__, G_Board___init__, m_Board___init__, k_Board___init__, b_Board___init__⟩ := ok_Board___init__ (P := P) (w := w) (base := base) T
  obtain ⟨t_EMPTY, c_EMPTY⟩ := T.c_EMPTY
  refine okF (u := uv K C) rfl F0 sc_without rfl fun cdv A outer s H E hr => ⟨_, (pss_cons (ps_setLc (i := 2) (own := [("line", 5)]) rfl sc_without.nd rfl rfl (sw_true rfl rfl rfl (by decide +kernel)) (MH.pi_anyK (K := K) rfl (MH.pe_propK (K := K) rfl (pv 0) T.cls_Board m_Board_cells G_Board_cells (hr.mono (by decide)) b_Board_cells pass0 rfl)) (blkOk_by (own := [("line", 5)]) (by kernel_rfl)) (fun _ _ _ _ _ => (pg_name (i := 5) sc_without.nd rfl (Or.inl rfl))) (fun _ _ _ _ _ => pts_nil) (fun _ _ _ _ _ => (pe_callTy (r := MH.rListX K) (MH.cr_listX rfl) rfl T.n_list (by decide +kernel) (pa_cons (pv 5) pa_nil))))
  (pss_cons (ps_for PassesOwn.never rfl (MH.pi_anyK (K := K) rfl (pv 1)) (MH.pg_tupK (K := K) (n := 2) rfl rfl (pgs_cons (pg_name (i := 3) sc_without.nd rfl (Or.inl rfl)) (pgs_cons (pg_name (i := 4) sc_without.nd rfl (Or.inl rfl)) pgs_nil))) (pss_one (ps_asg (pe_glob (v := .str ".") rfl c_EMPTY ⟨_, rfl⟩) (pg_sub (pe_ix (r := rIx K) ix_seq (pv 2) (pv 3) (fun _ _ => rfl)) (pv 4) set_list))))
  (pss_one (ps_ret (pe_make m_Board___init__ G_Board___init__ (hr.mono (by decide)) rfl T.mg_Board b_Board___init__ .nil pass0 (pa_cons (pe_callTy (r := MH.rTuple K) call_tuple_of rfl T.n_tuple (by decide +kernel) (pa_cons (pe_lc (own := [("line", 5)]) rfl sc_without.nd (MH.pi_anyK (K := K) rfl (pv 2)) (blkOk_by (own := [("line", 5)]) (by kernel_rfl)) (fun _ _ _ _ _ => (pg_name (i := 5) sc_without.nd rfl (Or.inl rfl))) (fun _ _ _ _ _ => pts_nil) (fun _ _ _ _ _ => (MH.pe_joinK (K := K) rfl pe_str (pv 5)))) pa_nil)) pa_nil)))))), ?_⟩
  exact (rs_seq2 (rs_nest (b := []) (i := 2) (j := 5) (r := 3) (c := 4) (ri_any (rz_prop (u := uv K C) (c := 0) (rz_var 0))) (ri_any (rz_var 1)) (fun _ => rep_str.mpr rfl))
  (rs_ret (rz_frz (rzm_make (u := uv K C) (c := 0) (rz_cons (rz_cb (rz_cons (rz_frz (rzm_lc (vs := [5]) (ri_any (rz_var 2)) (rg_name 5) rt_yes (rz_joinK rz_str (rz_var 5)))) rz_nil) rc_tuple) rz_nil)))))
theorem ok_without (T : Txt K mg C) : FnX P w K mg base 6 ["board", "lost"] (SpF (uv K C) 2 F_without) (fun f => mg "without" = some (.ref f)) := by
  obtain ⟨f, fd, F0, m0⟩ := T.d_without
  exact ⟨f, fd, okd_without T F0, m0, F0.kp, F0.bindsN fun _ _ _ _ _ _ us hl => match us, hl with | [_, _], _ => rfl⟩
theorem sc_lifted : FnScope ["board", "lost", "thread"] ["board", "lost", "thread"] (defScope s_lifted) := ⟨rfl, rfl, rfl, by decide +kernel, rfl, by decide +kernel, by decide +kernel⟩
def B_lifted : ML.Env → SO :=
  (retF (callF 2 (consF (callF 2 (consF (varF 0) (consF (varF 1) nilF)) F_without) (consF (tupF (consF (varF 2) nilF)) nilF)) F_least_closed))
def F_lifted : List D → Rt := runF 3 B_lifted
theorem okd_lifted (T : Txt K mg C) {f : Addr} {fd : FuncData} (F0 : FunD K "lifted" "lifted" (defArgs s_lifted) (defBody s_lifted) (defScope s_lifted) [] [] f fd) : FnOk P w K mg base CX0 7 f fd ["board", "lost", "thread"] (SpF (uv K C) 3 F_lifted) := by
  obtain ⟨f_least_closed, fd_least_closed, G_least_closed, m_least_closed, k_least_closed, b_least_closed⟩ := ok_least_closed (P := P) (w := w) (base := base) T
  obtain ⟨f_without, fd_without, G_without, m_without, k_without, b_without⟩ := ok_without (P := P) (w := w) (base := base) T
  refine okF (u := uv K C) rfl F0 sc_lifted rfl fun cdv A outer s H E hr => ⟨_, (pss_one (ps_ret (pe_call G_least_closed (hr.mono (by decide)) rfl m_least_closed k_least_closed b_least_closed .nil pass0 (pa_cons (pe_call G_without (hr.mono (by decide)) rfl m_without k_without b_without .nil pass0 (pa_cons (pv 0) (pa_cons (pv 1) pa_nil))) (pa_cons (pe_tup (pa_cons (pv 2) pa_nil)) pa_nil))))), ?_⟩
  exact (rs_ret (rz_call0 (rz_cons (rz_call0 (rz_cons (rz_var 0) (rz_cons (rz_var 1) rz_nil))) (rz_cons (rz_tup (rz_cons (rz_var 2) rz_nil)) rz_nil))))
theorem ok_lifted (T : Txt K mg C) : FnX P w K mg base 7 ["board", "lost", "thread"] (SpF (uv K C) 3 F_lifted) (fun f => mg "lifted" = some (.ref f)) := by
  obtain ⟨f, fd, F0, m0⟩ := T.d_lifted
  exact ⟨f, fd, okd_lifted T F0, m0, F0.kp, F0.bindsN fun _ _ _ _ _ _ us hl => match us, hl with | [_, _, _], _ => rfl⟩
theorem sc_comes_along : FnScope ["board", "lost", "thread"] ["board", "lost", "thread"] (defScope s_comes_along) := ⟨rfl, rfl, rfl, by decide +kernel, rfl, by decide +kernel, by decide +kernel⟩
def B_comes_along : ML.Env → SO :=
  (seqF (dropF (callF 1 (consF (varF 0) nilF) F_need_board))
  (seqF (dropF (callF 2 (consF (varF 0) (consF (varF 1) nilF)) F_need_break))
  (seqF (dropF (callF 2 (consF (varF 0) (consF (varF 2) nilF)) F_need_thread))
  (retF (callF 3 (consF (varF 0) (consF (varF 1) (consF (varF 2) nilF))) F_lifted)))))
def F_comes_along : List D → Rt := runF 3 B_comes_along
theorem okd_comes_along (T : Txt K mg C) {f : Addr} {fd : FuncData} (F0 : FunD K "comes_along" "comes_along" (defArgs s_comes_along) (defBody s_comes_along) (defScope s_comes_along) [] [] f fd) : FnOk P w K mg base CX0 8 f fd ["board", "lost", "thread"] (SpF (uv K C) 3 F_comes_along) := by
  obtain ⟨f_need_board, fd_need_board, G_need_board, m_need_board, k_need_board, b_need_board⟩ := ok_need_board (P := P) (w := w) (base := base) T
  obtain ⟨f_need_break, fd_need_break, G_need_break, m_need_break, k_need_break, b_need_break⟩ := ok_need_break (P := P) (w := w) (base := base) T
  obtain ⟨f_need_thread, fd_need_thread, G_need_thread, m_need_thread, k_need_thread, b_need_thread⟩ := ok_need_thread (P := P) (w := w) (base := base) T
  obtain ⟨f_lifted, fd_lifted, G_lifted, m_lifted, k_lifted, b_lifted⟩ := ok_lifted (P := P) (w := w) (base := base) T
  refine okF (u := uv K C) rfl F0 sc_comes_along rfl fun cdv A outer s H E hr => ⟨_, (pss_cons (ps_expr (pe_call G_need_board (hr.mono (by decide)) rfl m_need_board k_need_board b_need_board .nil pass0 (pa_cons (pv 0) pa_nil)))
  (pss_cons (ps_expr (pe_call G_need_break (hr.mono (by decide)) rfl m_need_break k_need_break b_need_break .nil pass0 (pa_cons (pv 0) (pa_cons (pv 1) pa_nil))))
  (pss_cons (ps_expr (pe_call G_need_thread (hr.mono (by decide)) rfl m_need_thread k_need_thread b_need_thread .nil pass0 (pa_cons (pv 0) (pa_cons (pv 2) pa_nil))))
  (pss_one (ps_ret (pe_call G_lifted (hr.mono (by decide)) rfl m_lifted k_lifted b_lifted .nil pass0 (pa_cons (pv 0) (pa_cons (pv 1) (pa_cons (pv 2) pa_nil))))))))), ?_⟩
  exact (rs_seq (rs_drop (rz_call0 (rz_cons (rz_var 0) rz_nil)))
  (rs_seq (rs_drop (rz_call0 (rz_cons (rz_var 0) (rz_cons (rz_var 1) rz_nil))))
  (rs_seq (rs_drop (rz_call0 (rz_cons (rz_var 0) (rz_cons (rz_var 2) rz_nil))))
  (rs_ret (rz_call0 (rz_cons (rz_var 0) (rz_cons (rz_var 1) (rz_cons (rz_var 2) rz_nil))))))))
theorem ok_comes_along (T : Txt K mg C) : FnX P w K mg base 8 ["board", "lost", "thread"] (SpF (uv K C) 3 F_comes_along) (fun f => mg "comes_along" = some (.ref f)) := by
  obtain ⟨f, fd, F0, m0⟩ := T.d_comes_along
  exact ⟨f, fd, okd_comes_along T F0, m0, F0.kp, F0.bindsN fun _ _ _ _ _ _ us hl => match us, hl with | [_, _, _], _ => rfl⟩
theorem sc_sight_of : FnScope ["board", "lost", "thread", "lot", "other"] ["board", "lost", "thread"] (defScope s_sight_of) := ⟨rfl, rfl, rfl, by decide +kernel, rfl, by decide +kernel, by decide +kernel⟩
def B_sight_of : ML.Env → SO :=
  (seqF (asgF (callF 3 (consF (varF 0) (consF (varF 1) (consF (varF 2) nilF))) F_comes_along) (gnF 3))
  (retF (joinF (cF (.str "")) (frzF (lcM [4] (rng1F (cbF (consF (varF 0) nilF) (lenA 0 F_Board___len__))) (gnF 4) tYesF (ifE (testF (op2F (varF 4) (varF 3) inD)) (cF (.str "+")) (cF (.str "-"))))))))
def F_sight_of : List D → Rt := runF 5 B_sight_of
theorem okd_sight_of (T : Txt K mg C) {f : Addr} {fd : FuncData} (F0 : FunD K "sight_of" "sight_of" (defArgs s_sight_of) (defBody s_sight_of) (defScope s_sight_of) [] [] f fd) : FnOk P w K mg base CX0 9 f fd ["board", "lost", "thread"] (SpF (uv K C) 3 F_sight_of) := by
  obtain ⟨f_comes_along, fd_comes_along, G_comes_along, m_comes_along, k_comes_along, b_comes_along⟩ := ok_comes_along (P := P) (w := w) (base := base) T
  obtain ⟨f_Board___len__, fd_Board___len__, G_Board___len__, m_Board___len__, k_Board___len__, b_Board___len__⟩ := ok_Board___len__ (P := P) (w := w) (base := base) T
  refine okF (u := uv K C) rfl F0 sc_sight_of rfl fun cdv A outer s H E hr => ⟨_, (pss_cons (ps_set (i := 3) sc_sight_of.nd rfl (Or.inr rfl) (pe_call G_comes_along (hr.mono (by decide)) rfl m_comes_along k_comes_along b_comes_along .nil pass0 (pa_cons (pv 0) (pa_cons (pv 1) (pa_cons (pv 2) pa_nil)))))
  (pss_one (ps_ret (MH.pe_joinK (K := K) rfl pe_str (pe_lc (own := [("other", 4)]) rfl sc_sight_of.nd (pi_range1 rfl T.n_range (pa_cons (pe_callB (r := MH.rLenA K C (SpF (uv K C) 1 F_Board___len__)) (MH.call_lenA m_Board___len__ G_Board___len__ (hr.mono (by decide)) b_Board___len__) rfl T.n_len (by decide +kernel) (pa_cons (pv 0) pa_nil)) pa_nil)) (blkOk_by (own := [("other", 4)]) (by kernel_rfl)) (fun _ _ _ _ _ => (pg_name (i := 4) sc_sight_of.nd rfl (Or.inl rfl))) (fun _ _ _ _ _ => pts_nil) (fun _ _ _ _ _ => (pe_ifExp (pt_cmpR (r := MH.rInA K) (MH.op_inA hr) (pv 4) (pv 3) (by rfl)) pe_str pe_str))))))), ?_⟩
  exact (rs_seq (rs_asg (b := []) (rz_call0 (rz_cons (rz_var 0) (rz_cons (rz_var 1) (rz_cons (rz_var 2) rz_nil)))) (rg_name 3))
  (rs_ret (rz_joinK rz_str (rz_frz (rzm_lc (vs := [4]) (ri_rng1 (rz_cb (rz_cons (rz_var 0) rz_nil) rc_lenA)) (rg_name 4) rt_yes (rz_if (rt_test (rz_op (rz_var 4) (rz_var 3) rr_in)) rz_str rz_str))))))
theorem ok_sight_of (T : Txt K mg C) : FnX P w K mg base 9 ["board", "lost", "thread"] (SpF (uv K C) 3 F_sight_of) (fun f => mg "sight_of" = some (.ref f)) := by
  obtain ⟨f, fd, F0, m0⟩ := T.d_sight_of
  exact ⟨f, fd, okd_sight_of T F0, m0, F0.kp, F0.bindsN fun _ _ _ _ _ _ us hl => match us, hl with | [_, _, _], _ => rfl⟩
theorem sc_broken : FnScope ["board", "lost"] ["board", "lost"] (defScope s_broken) := ⟨rfl, rfl, rfl, by decide +kernel, rfl, by decide +kernel, by decide +kernel⟩
def B_broken : ML.Env → SO :=
  (seqF (dropF (callF 1 (consF (varF 0) nilF) F_need_board))
  (seqF (dropF (callF 2 (consF (varF 0) (consF (varF 1) nilF)) F_need_break))
  (retF (callF 2 (consF (varF 0) (consF (varF 1) nilF)) F_without))))
def F_broken : List D → Rt := runF 2 B_broken
theorem okd_broken (T : Txt K mg C) {f : Addr} {fd : FuncData} (F0 : FunD K "broken" "broken" (defArgs s_broken) (defBody s_broken) (defScope s_broken) [] [] f fd) : FnOk P w K mg base CX0 7 f fd ["board", "lost"] (SpF (uv K C) 2 F_broken) := by
  obtain ⟨f_need_board, fd_need_board, G_need_board, m_need_board, k_need_board, b_need_board⟩ := ok_need_board (P := P) (w := w) (base := base) T
  obtain ⟨f_need_break, fd_need_break, G_need_break, m_need_break, k_need_break, b_need_break⟩ := ok_need_break (P := P) (w := w) (base := base) T
  obtain ⟨f_without, fd_without, G_without, m_without, k_without, b_without⟩ := ok_without (P := P) (w := w) (base := base) T
  refine okF (u := uv K C) rfl F0 sc_broken rfl fun cdv A outer s H E hr => ⟨_, (pss_cons (ps_expr (pe_call G_need_board (hr.mono (by decide)) rfl m_need_board k_need_board b_need_board .nil pass0 (pa_cons (pv 0) pa_nil)))
  (pss_cons (ps_expr (pe_call G_need_break (hr.mono (by decide)) rfl m_need_break k_need_break b_need_break .nil pass0 (pa_cons (pv 0) (pa_cons (pv 1) pa_nil))))
  (pss_one (ps_ret (pe_call G_without (hr.mono (by decide)) rfl m_without k_without b_without .nil pass0 (pa_cons (pv 0) (pa_cons (pv 1) pa_nil))))))), ?_⟩
  exact (rs_seq (rs_drop (rz_call0 (rz_cons (rz_var 0) rz_nil)))
  (rs_seq (rs_drop (rz_call0 (rz_cons (rz_var 0) (rz_cons (rz_var 1) rz_nil))))
  (rs_ret (rz_call0 (rz_cons (rz_var 0) (rz_cons (rz_var 1) rz_nil))))))
theorem ok_broken (T : Txt K mg C) : FnX P w K mg base 7 ["board", "lost"] (SpF (uv K C) 2 F_broken) (fun f => mg "broken" = some (.ref f)) := by
  obtain ⟨f, fd, F0, m0⟩ := T.d_broken
  exact ⟨f, fd, okd_broken T F0, m0, F0.kp, F0.bindsN fun _ _ _ _ _ _ us hl => match us, hl with | [_, _], _ => rfl⟩
theorem sc_law : FnScope ["_law_script", "_law_row", "_law_cells_here", "_law_lost_here", "_law_board", "_law_less", "_law_many_here", "_law_lots_there", "_law_thread", "_law_due", "_law_lot", "_law_one"] ["_law_script"] (defScope s_law) := ⟨rfl, rfl, rfl, by decide +kernel, rfl, by decide +kernel, by decide +kernel⟩
abbrev B_law_L1 : ML.Env → SO :=
  (seqF (asgF (op2F (frzF (lcM [10] (itF (varF 7)) (gnF 10) (testF (op2F (varF 8) (varF 10) inD)) (varF 10))) (cF (.int 0)) ixD) (gnF 9))
  (seqF (ifS (testF (op2F (callF 3 (consF (varF 4) (consF (varF 3) (consF (varF 8) nilF))) F_comes_along) (varF 9) neD)) (retF (cF (.bl false))) nxF)
  (ifS (testF (op2F (callF 3 (consF (varF 4) (consF (varF 3) (consF (varF 8) nilF))) F_sight_of) (joinF (cF (.str "")) (frzF (lcM [11] (rng1F (varF 6)) (gnF 11) tYesF (ifE (testF (op2F (varF 11) (varF 9) inD)) (cF (.str "+")) (cF (.str "-")))))) neD)) (retF (cF (.bl false))) nxF)))
def B_law : ML.Env → SO :=
  (seqF (setM (lstM (consF (varF 0) (consF (cF (.int 0)) (consF (cF (.int 1467)) (consF (cF (.int 0)) nilF))))) 1)
  (seqF (asgF (callMF 1 1 (consF (cF (.int 4)) nilF) F__law_cells) (gnF 2))
  (seqF (parF 3 4 (fzM (callMF 1 1 (consF (varF 2) nilF) F__law_lost)) (fzM (frzF (makeM 0 1 (consF (varF 2) nilF) F_Board___init__))))
  (seqF (parF 5 6 (fzM (callF 2 (consF (varF 2) (consF (varF 3) nilF)) F__law_without)) (fzM (callF 1 (consF (varF 2) nilF) F__law_many)))
  (seqF (ifS (orT (testF (op2F (propF (callF 2 (consF (varF 4) (consF (varF 3) nilF)) F_broken) 0 F_Board_cells) (varF 5) neD)) (testF (op2F (propF (varF 4) 0 F_Board_cells) (varF 2) neD))) (retF (cF (.bl false))) nxF)
  (seqF (asgF (callF 1 (consF (varF 5) nilF) F__law_lots) (gnF 7))
  (seqF (forS (rng1F (varF 6)) (gnF 8) B_law_L1)
  (retF (cF (.bl true))))))))))
def F_law : List D → Rt := runF 12 B_law
theorem okd_law (T : Txt K mg C) {f : Addr} {fd : FuncData} (F0 : FunD K "law" "law" (defArgs s_law) (defBody s_law) (defScope s_law) [] [] f fd) : FnOk P w K mg base CX0 10 f fd ["_law_script"] (SpF (uv K C) 1 F_law) := by
  obtain ⟨f__law_cells, fd__law_cells, G__law_cells, m__law_cells, k__law_cells, b__law_cells⟩ := ok__law_cells (P := P) (w := w) (base := base) T
  obtain ⟨f__law_lost, fd__law_lost, G__law_lost, m__law_lost, k__law_lost, b__law_lost⟩ := ok__law_lost (P := P) (w := w) (base := base) T
  obtain ⟨f_Board___init__, fd_Board___init__, G_Board___init__, m_Board___init__, k_Board___init__, b_Board___init__⟩ := ok_Board___init__ (P := P) (w := w) (base := base) T
  obtain ⟨f__law_without, fd__law_without, G__law_without, m__law_without, k__law_without, b__law_without⟩ := ok__law_without (P := P) (w := w) (base := base) T
  obtain ⟨f__law_many, fd__law_many, G__law_many, m__law_many, k__law_many, b__law_many⟩ := ok__law_many (P := P) (w := w) (base := base) T
  obtain ⟨f_Board_cells, fd_Board_cells, G_Board_cells, ⟨p_Board_cells, m_Board_cells⟩, k_Board_cells, b_Board_cells⟩ := ok_Board_cells (P := P) (w := w) (base := base) T
  obtain ⟨f_broken, fd_broken, G_broken, m_broken, k_broken, b_broken⟩ := ok_broken (P := P) (w := w) (base := base) T
  obtain ⟨f__law_lots, fd__law_lots, G__law_lots, m__law_lots, k__law_lots, b__law_lots⟩ := ok__law_lots (P := P) (w := w) (base := base) T
  obtain ⟨f_comes_along, fd_comes_along, G_comes_along, m_comes_along, k_comes_along, b_comes_along⟩ := ok_comes_along (P := P) (w := w) (base := base) T
  obtain ⟨f_sight_of, fd_sight_of, G_sight_of, m_sight_of, k_sight_of, b_sight_of⟩ := ok_sight_of (P := P) (w := w) (base := base) T
  refine okF (u := uv K C) rfl F0 sc_law rfl fun cdv A outer s H E hr => ⟨_, (pss_cons (ps_set (i := 1) sc_law.nd rfl (Or.inl rfl) (pe_lst (pa_cons (pv 0) (pa_cons pe_int (pa_cons pe_int (pa_cons pe_int pa_nil))))))
  (pss_cons (ps_set (i := 2) sc_law.nd rfl (Or.inl rfl) (pe_call G__law_cells (hr.mono (by decide)) rfl m__law_cells k__law_cells b__law_cells .nil pass0 (pa_cons (pv 1) (pa_cons pe_int pa_nil))))
  (pss_cons (ps_par (i := 3) (j := 4) rfl sc_law.nd rfl rfl (by decide) rfl rfl (pa_cons (pe_call G__law_lost (hr.mono (by decide)) rfl m__law_lost k__law_lost b__law_lost .nil pass0 (pa_cons (pv 1) (pa_cons (pv 2) pa_nil))) (pa_cons (pe_make m_Board___init__ G_Board___init__ (hr.mono (by decide)) rfl T.mg_Board b_Board___init__ .nil pass0 (pa_cons (pv 2) pa_nil)) pa_nil)) (by rfl))
  (pss_cons (ps_par (i := 5) (j := 6) rfl sc_law.nd rfl rfl (by decide) rfl rfl (pa_cons (pe_call G__law_without (hr.mono (by decide)) rfl m__law_without k__law_without b__law_without .nil pass0 (pa_cons (pv 2) (pa_cons (pv 3) pa_nil))) (pa_cons (pe_call G__law_many (hr.mono (by decide)) rfl m__law_many k__law_many b__law_many .nil pass0 (pa_cons (pv 2) pa_nil)) pa_nil)) (by rfl))
  (pss_cons (ps_if (PW.pt (pw_or (pt_cmpR (r := rNeD K) (op_neD hr.units) (MH.pe_propK (K := K) rfl (pe_call G_broken (hr.mono (by decide)) rfl m_broken k_broken b_broken .nil pass0 (pa_cons (pv 4) (pa_cons (pv 3) pa_nil))) T.cls_Board m_Board_cells G_Board_cells (hr.mono (by decide)) b_Board_cells pass0 rfl) (pv 5) (nomark _)) (pw_or1 (pt_cmpR (r := rNeD K) (op_neD hr.units) (MH.pe_propK (K := K) rfl (pv 4) T.cls_Board m_Board_cells G_Board_cells (hr.mono (by decide)) b_Board_cells pass0 rfl) (pv 2) (nomark _))))) (pss_one (ps_ret pe_bl)) pss_nil)
  (pss_cons (ps_set (i := 7) sc_law.nd rfl (Or.inl rfl) (pe_call G__law_lots (hr.mono (by decide)) rfl m__law_lots k__law_lots b__law_lots .nil pass0 (pa_cons (pv 5) pa_nil)))
  (pss_cons (ps_for PassesOwn.never rfl (pi_range1 rfl T.n_range (pa_cons (pv 6) pa_nil)) (pg_name (i := 8) sc_law.nd rfl (Or.inr rfl)) (pss_cons (ps_set (i := 9) sc_law.nd rfl (Or.inr rfl) (pe_ix (r := rIx K) ix_seq (pe_lc (own := [("_law_lot", 10)]) rfl sc_law.nd (MH.pi_anyK (K := K) rfl (pv 7)) (blkOk_by (own := [("_law_lot", 10)]) (by kernel_rfl)) (fun _ _ _ _ _ => (pg_name (i := 10) sc_law.nd rfl (Or.inl rfl))) (fun _ _ _ _ _ => (pts_one (pt_cmpR (r := MH.rInA K) (MH.op_inA hr) (pv 8) (pv 10) (by rfl)))) (fun _ _ _ _ _ => (pv 10))) pe_int (fun _ _ => rfl)))
  (pss_cons (ps_if (pt_cmpR (r := rNeD K) (op_neD hr.units) (pe_call G_comes_along (hr.mono (by decide)) rfl m_comes_along k_comes_along b_comes_along .nil pass0 (pa_cons (pv 4) (pa_cons (pv 3) (pa_cons (pv 8) pa_nil)))) (pv 9) (nomark _)) (pss_one (ps_ret pe_bl)) pss_nil)
  (pss_one (ps_if (pt_cmpR (r := rNeD K) (op_neD hr.units) (pe_call G_sight_of (hr.mono (by decide)) rfl m_sight_of k_sight_of b_sight_of .nil pass0 (pa_cons (pv 4) (pa_cons (pv 3) (pa_cons (pv 8) pa_nil)))) (MH.pe_joinK (K := K) rfl pe_str (pe_lc (own := [("_law_one", 11)]) rfl sc_law.nd (pi_range1 rfl T.n_range (pa_cons (pv 6) pa_nil)) (blkOk_by (own := [("_law_one", 11)]) (by kernel_rfl)) (fun _ _ _ _ _ => (pg_name (i := 11) sc_law.nd rfl (Or.inl rfl))) (fun _ _ _ _ _ => pts_nil) (fun _ _ _ _ _ => (pe_ifExp (pt_cmpR (r := MH.rInA K) (MH.op_inA hr) (pv 11) (pv 9) (by rfl)) pe_str pe_str)))) (nomark _)) (pss_one (ps_ret pe_bl)) pss_nil)))))
  (pss_one (ps_ret pe_bl))))))))), ?_⟩
  exact (rs_seq (rs_setM (b := []) (rzm_lst (rz_cons (rz_var 0) (rz_cons rz_int (rz_cons rz_int (rz_cons rz_int rz_nil))))))
  (rs_seq (rs_asg (b := []) (rz_callM (rz_cons rz_int rz_nil)) (rg_name 2))
  (rs_seq (rs_par (b := []) (rzm_fz (rz_callM (rz_cons (rz_var 2) rz_nil))) (rzm_fz (rz_frz (rzm_make (u := uv K C) (c := 0) (rz_cons (rz_var 2) rz_nil)))))
  (rs_seq (rs_par (b := []) (rzm_fz (rz_call0 (rz_cons (rz_var 2) (rz_cons (rz_var 3) rz_nil)))) (rzm_fz (rz_call0 (rz_cons (rz_var 2) rz_nil))))
  (rs_seq (rs_if (rt_or (rt_test (rz_op (rz_prop (u := uv K C) (c := 0) (rz_call0 (rz_cons (rz_var 4) (rz_cons (rz_var 3) rz_nil)))) (rz_var 5) rr_ne)) (rt_test (rz_op (rz_prop (u := uv K C) (c := 0) (rz_var 4)) (rz_var 2) rr_ne))) (rs_ret rz_bl) rs_next)
  (rs_seq (rs_asg (b := []) (rz_call0 (rz_cons (rz_var 5) rz_nil)) (rg_name 7))
  (rs_seq (rs_for (b := []) (ri_rng1 (rz_var 6)) (rg_name 8) (rs_seq (rs_asg (b := []) (rz_op (rz_frz (rzm_lc (vs := [10]) (ri_any (rz_var 7)) (rg_name 10) (rt_test (rz_op (rz_var 8) (rz_var 10) rr_in)) (rz_var 10))) rz_int rr_ix) (rg_name 9))
  (rs_seq (rs_if (rt_test (rz_op (rz_call0 (rz_cons (rz_var 4) (rz_cons (rz_var 3) (rz_cons (rz_var 8) rz_nil)))) (rz_var 9) rr_ne)) (rs_ret rz_bl) rs_next)
  (rs_if (rt_test (rz_op (rz_call0 (rz_cons (rz_var 4) (rz_cons (rz_var 3) (rz_cons (rz_var 8) rz_nil)))) (rz_joinK rz_str (rz_frz (rzm_lc (vs := [11]) (ri_rng1 (rz_var 6)) (rg_name 11) rt_yes (rz_if (rt_test (rz_op (rz_var 11) (rz_var 9) rr_in)) rz_str rz_str)))) rr_ne)) (rs_ret rz_bl) rs_next))))
  (rs_ret rz_bl))))))))
theorem ok_law (T : Txt K mg C) : FnX P w K mg base 10 ["_law_script"] (SpF (uv K C) 1 F_law) (fun f => mg "law" = some (.ref f)) := by
  obtain ⟨f, fd, F0, m0⟩ := T.d_law
  exact ⟨f, fd, okd_law T F0, m0, F0.kp, F0.bindsN fun _ _ _ _ _ _ us hl => match us, hl with | [_], _ => rfl⟩
end
/-! ### the head -/
def h_Board___len__ : He.DefD := ⟨("Board", some "__len__"), "__len__", "Board.__len__", defArgs s_Board___len__, defBody s_Board___len__, defScope s_Board___len__, [], []⟩
def h__law_taken : He.DefD := ⟨("_law_taken", none), "_law_taken", "_law_taken", defArgs s__law_taken, defBody s__law_taken, defScope s__law_taken, [], []⟩
def h__law_cells : He.DefD := ⟨("_law_cells", none), "_law_cells", "_law_cells", defArgs s__law_cells, defBody s__law_cells, defScope s__law_cells, [], []⟩
def h__law_steps : He.DefD := ⟨("_law_steps", none), "_law_steps", "_law_steps", defArgs s__law_steps, defBody s__law_steps, defScope s__law_steps, [], []⟩
def h__law_all_lots : He.DefD := ⟨("_law_all_lots", none), "_law_all_lots", "_law_all_lots", defArgs s__law_all_lots, defBody s__law_all_lots, defScope s__law_all_lots, [], []⟩
def h__law_is_closed : He.DefD := ⟨("_law_is_closed", none), "_law_is_closed", "_law_is_closed", defArgs s__law_is_closed, defBody s__law_is_closed, defScope s__law_is_closed, [], []⟩
def h__law_many : He.DefD := ⟨("_law_many", none), "_law_many", "_law_many", defArgs s__law_many, defBody s__law_many, defScope s__law_many, [], []⟩
def h__law_lots : He.DefD := ⟨("_law_lots", none), "_law_lots", "_law_lots", defArgs s__law_lots, defBody s__law_lots, defScope s__law_lots, [], []⟩
def h__law_led : He.DefD := ⟨("_law_led", none), "_law_led", "_law_led", defArgs s__law_led, defBody s__law_led, defScope s__law_led, [], []⟩
def h__law_lost : He.DefD := ⟨("_law_lost", none), "_law_lost", "_law_lost", defArgs s__law_lost, defBody s__law_lost, defScope s__law_lost, [], []⟩
def h_is_line : He.DefD := ⟨("is_line", none), "is_line", "is_line", defArgs s_is_line, defBody s_is_line, defScope s_is_line, [], []⟩
def h_Board___init__ : He.DefD := ⟨("Board", some "__init__"), "__init__", "Board.__init__", defArgs s_Board___init__, defBody s_Board___init__, defScope s_Board___init__, [], []⟩
def h__law_without : He.DefD := ⟨("_law_without", none), "_law_without", "_law_without", defArgs s__law_without, defBody s__law_without, defScope s__law_without, [], []⟩
def h_Board_cells : He.DefD := ⟨("Board", some "cells"), "cells", "Board.cells", defArgs s_Board_cells, defBody s_Board_cells, defScope s_Board_cells, [], []⟩
def h_need_board : He.DefD := ⟨("need_board", none), "need_board", "need_board", defArgs s_need_board, defBody s_need_board, defScope s_need_board, [], []⟩
def h_led_cells : He.DefD := ⟨("led_cells", none), "led_cells", "led_cells", defArgs s_led_cells, defBody s_led_cells, defScope s_led_cells, [], []⟩
def h_is_cell : He.DefD := ⟨("is_cell", none), "is_cell", "is_cell", defArgs s_is_cell, defBody s_is_cell, defScope s_is_cell, [], []⟩
def h_need_break : He.DefD := ⟨("need_break", none), "need_break", "need_break", defArgs s_need_break, defBody s_need_break, defScope s_need_break, [], []⟩
def h_is_from : He.DefD := ⟨("is_from", none), "is_from", "is_from", defArgs s_is_from, defBody s_is_from, defScope s_is_from, [], []⟩
def h_is_thread : He.DefD := ⟨("is_thread", none), "is_thread", "is_thread", defArgs s_is_thread, defBody s_is_thread, defScope s_is_thread, [], []⟩
def h_need_thread : He.DefD := ⟨("need_thread", none), "need_thread", "need_thread", defArgs s_need_thread, defBody s_need_thread, defScope s_need_thread, [], []⟩
def h_is_lot : He.DefD := ⟨("is_lot", none), "is_lot", "is_lot", defArgs s_is_lot, defBody s_is_lot, defScope s_is_lot, [], []⟩
def h_need_lot : He.DefD := ⟨("need_lot", none), "need_lot", "need_lot", defArgs s_need_lot, defBody s_need_lot, defScope s_need_lot, [], []⟩
def h_all_steps : He.DefD := ⟨("all_steps", none), "all_steps", "all_steps", defArgs s_all_steps, defBody s_all_steps, defScope s_all_steps, [], []⟩
def h_leads_of : He.DefD := ⟨("leads_of", none), "leads_of", "leads_of", defArgs s_leads_of, defBody s_leads_of, defScope s_leads_of, [], []⟩
def h_least_closed : He.DefD := ⟨("least_closed", none), "least_closed", "least_closed", defArgs s_least_closed, defBody s_least_closed, defScope s_least_closed, [], []⟩
def h_without : He.DefD := ⟨("without", none), "without", "without", defArgs s_without, defBody s_without, defScope s_without, [], []⟩
def h_lifted : He.DefD := ⟨("lifted", none), "lifted", "lifted", defArgs s_lifted, defBody s_lifted, defScope s_lifted, [], []⟩
def h_comes_along : He.DefD := ⟨("comes_along", none), "comes_along", "comes_along", defArgs s_comes_along, defBody s_comes_along, defScope s_comes_along, [], []⟩
def h_sight_of : He.DefD := ⟨("sight_of", none), "sight_of", "sight_of", defArgs s_sight_of, defBody s_sight_of, defScope s_sight_of, [], []⟩
def h_broken : He.DefD := ⟨("broken", none), "broken", "broken", defArgs s_broken, defBody s_broken, defScope s_broken, [], []⟩
def h_law : He.DefD := ⟨("law", none), "law", "law", defArgs s_law, defBody s_law, defScope s_law, [], []⟩
def fn : List He.DefD := [h_Board___len__, h__law_taken, h__law_cells, h__law_steps, h__law_all_lots, h__law_is_closed, h__law_many, h__law_lots, h__law_led, h__law_lost, h_is_line, h_Board___init__, h__law_without, h_need_board, h_led_cells, h_is_cell, h_need_break, h_is_from, h_is_thread, h_need_thread, h_is_lot, h_need_lot, h_all_steps, h_leads_of, h_least_closed, h_without, h_lifted, h_comes_along, h_sight_of, h_broken, h_law]
def pr : List ((Str × Str) × He.DefD) := [(("Board", "cells"), h_Board_cells)]
def fa : List He.Fa := [.meth "Board" "__len__", .glo "_law_taken", .glo "_law_cells", .glo "_law_steps", .glo "_law_all_lots", .glo "_law_is_closed", .glo "_law_many", .glo "_law_lots", .glo "_law_led", .glo "_law_lost", .glo "is_line", .mkr "Board", .glo "_law_without", .glo "need_board", .glo "led_cells", .glo "is_cell", .glo "need_break", .glo "is_from", .glo "is_thread", .glo "need_thread", .glo "is_lot", .glo "need_lot", .glo "all_steps", .glo "leads_of", .glo "least_closed", .glo "without", .glo "lifted", .glo "comes_along", .glo "sight_of", .glo "broken", .glo "law", .free "all", .free "any", .free "bool", .free "enumerate", .free "int", .free "isinstance", .free "len", .free "list", .free "range", .free "set", .free "sorted", .free "str", .free "tuple", .str "EMPTY" ".", .int "MOST_LINES" 5, .str "SIGNS" ".<>x", .glo "Board", .cls "Board", .noat "Board" "table"]
def ck : List (PySem.W.Frag → Bool) := [fun K => clsChk K (He.ga K "Board")]
abbrev R : PySem.W.OpenRow := PySem.W.OpenLaw.row PySem.Challenge.rw_wovenframes_k67_whole_what_comes_along
abbrev hk : PySem.W.Hook := hookY 7 fa fn pr ck
def ob (s : PySem.W.SharedT) : AlY := obsYG 7 fa fn pr ck (HandSHeadRun.getT s)
theorem ob_eq (s : PySem.W.SharedT) : ob s = hk.obs s.abs := obsYG_eq (HandSHeadRun.getT_eq s)
def names : List PySem.Str := (["is_from", "is_line", "need_board", "is_thread", "need_thread", "all_steps", "leads_of", "is_lot", "need_lot", "least_closed", "led_cells", "need_break", "is_cell", "without", "broken", "lifted", "comes_along", "sight_of", "_law_taken", "_law_cells", "_law_many", "_law_steps", "_law_leads", "_law_led", "_law_without", "_law_along", "_law_breaks", "_law_lost", "_law_all_lots", "_law_is_closed"] : List PySem.Str) ++ (["_law_lots", "WovenError", "BadBoard", "BadCells", "BadThread", "BadLot", "BadBreak", "Board", "SIGNS", "MOST_LINES", "EMPTY"] : List PySem.Str)
theorem run (w : World) : HandSHeadRun.RunEq R (PySem.W.view R.prog [47]) hk ob 40000 names w := by
  intro os
  kernel_rfl
theorem txt {K : PySem.W.Frag} {h : Heap} {mg : Str → Option Value} (X : K.In h) (G : h.Ns mainGlobals mg) (c : SaysY fa fn pr ck K) : Txt K mg (He.ga K "Board") where
  d_Board___len__ := let ⟨fd, F⟩ := c.d.def_ 0 (d := h_Board___len__) rfl; ⟨_, fd, F, He.meth_ok (c.d.fact 0 (f := .meth "Board" "__len__") rfl)⟩
  d__law_taken := let ⟨fd, F⟩ := c.d.def_ 1 (d := h__law_taken) rfl; ⟨_, fd, F, He.glo_ok X G (c.d.fact 1 (f := .glo "_law_taken") rfl)⟩
  d__law_cells := let ⟨fd, F⟩ := c.d.def_ 2 (d := h__law_cells) rfl; ⟨_, fd, F, He.glo_ok X G (c.d.fact 2 (f := .glo "_law_cells") rfl)⟩
  d__law_steps := let ⟨fd, F⟩ := c.d.def_ 3 (d := h__law_steps) rfl; ⟨_, fd, F, He.glo_ok X G (c.d.fact 3 (f := .glo "_law_steps") rfl)⟩
  d__law_all_lots := let ⟨fd, F⟩ := c.d.def_ 4 (d := h__law_all_lots) rfl; ⟨_, fd, F, He.glo_ok X G (c.d.fact 4 (f := .glo "_law_all_lots") rfl)⟩
  d__law_is_closed := let ⟨fd, F⟩ := c.d.def_ 5 (d := h__law_is_closed) rfl; ⟨_, fd, F, He.glo_ok X G (c.d.fact 5 (f := .glo "_law_is_closed") rfl)⟩
  d__law_many := let ⟨fd, F⟩ := c.d.def_ 6 (d := h__law_many) rfl; ⟨_, fd, F, He.glo_ok X G (c.d.fact 6 (f := .glo "_law_many") rfl)⟩
  d__law_lots := let ⟨fd, F⟩ := c.d.def_ 7 (d := h__law_lots) rfl; ⟨_, fd, F, He.glo_ok X G (c.d.fact 7 (f := .glo "_law_lots") rfl)⟩
  d__law_led := let ⟨fd, F⟩ := c.d.def_ 8 (d := h__law_led) rfl; ⟨_, fd, F, He.glo_ok X G (c.d.fact 8 (f := .glo "_law_led") rfl)⟩
  d__law_lost := let ⟨fd, F⟩ := c.d.def_ 9 (d := h__law_lost) rfl; ⟨_, fd, F, He.glo_ok X G (c.d.fact 9 (f := .glo "_law_lost") rfl)⟩
  d_is_line := let ⟨fd, F⟩ := c.d.def_ 10 (d := h_is_line) rfl; ⟨_, fd, F, He.glo_ok X G (c.d.fact 10 (f := .glo "is_line") rfl)⟩
  d_Board___init__ := let ⟨fd, F⟩ := c.d.def_ 11 (d := h_Board___init__) rfl; ⟨_, fd, F, He.mkr_ok (c.d.fact 11 (f := .mkr "Board") rfl)⟩
  d__law_without := let ⟨fd, F⟩ := c.d.def_ 12 (d := h__law_without) rfl; ⟨_, fd, F, He.glo_ok X G (c.d.fact 12 (f := .glo "_law_without") rfl)⟩
  d_Board_cells := let ⟨p, g, fd, F, h⟩ := c.prop 0 (c := "Board") (f := "cells") (d := h_Board_cells) rfl; ⟨g, fd, F, p, h⟩
  d_need_board := let ⟨fd, F⟩ := c.d.def_ 13 (d := h_need_board) rfl; ⟨_, fd, F, He.glo_ok X G (c.d.fact 13 (f := .glo "need_board") rfl)⟩
  d_led_cells := let ⟨fd, F⟩ := c.d.def_ 14 (d := h_led_cells) rfl; ⟨_, fd, F, He.glo_ok X G (c.d.fact 14 (f := .glo "led_cells") rfl)⟩
  d_is_cell := let ⟨fd, F⟩ := c.d.def_ 15 (d := h_is_cell) rfl; ⟨_, fd, F, He.glo_ok X G (c.d.fact 15 (f := .glo "is_cell") rfl)⟩
  d_need_break := let ⟨fd, F⟩ := c.d.def_ 16 (d := h_need_break) rfl; ⟨_, fd, F, He.glo_ok X G (c.d.fact 16 (f := .glo "need_break") rfl)⟩
  d_is_from := let ⟨fd, F⟩ := c.d.def_ 17 (d := h_is_from) rfl; ⟨_, fd, F, He.glo_ok X G (c.d.fact 17 (f := .glo "is_from") rfl)⟩
  d_is_thread := let ⟨fd, F⟩ := c.d.def_ 18 (d := h_is_thread) rfl; ⟨_, fd, F, He.glo_ok X G (c.d.fact 18 (f := .glo "is_thread") rfl)⟩
  d_need_thread := let ⟨fd, F⟩ := c.d.def_ 19 (d := h_need_thread) rfl; ⟨_, fd, F, He.glo_ok X G (c.d.fact 19 (f := .glo "need_thread") rfl)⟩
  d_is_lot := let ⟨fd, F⟩ := c.d.def_ 20 (d := h_is_lot) rfl; ⟨_, fd, F, He.glo_ok X G (c.d.fact 20 (f := .glo "is_lot") rfl)⟩
  d_need_lot := let ⟨fd, F⟩ := c.d.def_ 21 (d := h_need_lot) rfl; ⟨_, fd, F, He.glo_ok X G (c.d.fact 21 (f := .glo "need_lot") rfl)⟩
  d_all_steps := let ⟨fd, F⟩ := c.d.def_ 22 (d := h_all_steps) rfl; ⟨_, fd, F, He.glo_ok X G (c.d.fact 22 (f := .glo "all_steps") rfl)⟩
  d_leads_of := let ⟨fd, F⟩ := c.d.def_ 23 (d := h_leads_of) rfl; ⟨_, fd, F, He.glo_ok X G (c.d.fact 23 (f := .glo "leads_of") rfl)⟩
  d_least_closed := let ⟨fd, F⟩ := c.d.def_ 24 (d := h_least_closed) rfl; ⟨_, fd, F, He.glo_ok X G (c.d.fact 24 (f := .glo "least_closed") rfl)⟩
  d_without := let ⟨fd, F⟩ := c.d.def_ 25 (d := h_without) rfl; ⟨_, fd, F, He.glo_ok X G (c.d.fact 25 (f := .glo "without") rfl)⟩
  d_lifted := let ⟨fd, F⟩ := c.d.def_ 26 (d := h_lifted) rfl; ⟨_, fd, F, He.glo_ok X G (c.d.fact 26 (f := .glo "lifted") rfl)⟩
  d_comes_along := let ⟨fd, F⟩ := c.d.def_ 27 (d := h_comes_along) rfl; ⟨_, fd, F, He.glo_ok X G (c.d.fact 27 (f := .glo "comes_along") rfl)⟩
  d_sight_of := let ⟨fd, F⟩ := c.d.def_ 28 (d := h_sight_of) rfl; ⟨_, fd, F, He.glo_ok X G (c.d.fact 28 (f := .glo "sight_of") rfl)⟩
  d_broken := let ⟨fd, F⟩ := c.d.def_ 29 (d := h_broken) rfl; ⟨_, fd, F, He.glo_ok X G (c.d.fact 29 (f := .glo "broken") rfl)⟩
  d_law := let ⟨fd, F⟩ := c.d.def_ 30 (d := h_law) rfl; ⟨_, fd, F, He.glo_ok X G (c.d.fact 30 (f := .glo "law") rfl)⟩
  n_all := He.free_ok X G (c.d.fact 31 (f := .free "all") rfl)
  n_any := He.free_ok X G (c.d.fact 32 (f := .free "any") rfl)
  n_bool := He.free_ok X G (c.d.fact 33 (f := .free "bool") rfl)
  n_enumerate := He.free_ok X G (c.d.fact 34 (f := .free "enumerate") rfl)
  n_int := He.free_ok X G (c.d.fact 35 (f := .free "int") rfl)
  n_isinstance := He.free_ok X G (c.d.fact 36 (f := .free "isinstance") rfl)
  n_len := He.free_ok X G (c.d.fact 37 (f := .free "len") rfl)
  n_list := He.free_ok X G (c.d.fact 38 (f := .free "list") rfl)
  n_range := He.free_ok X G (c.d.fact 39 (f := .free "range") rfl)
  n_set := He.free_ok X G (c.d.fact 40 (f := .free "set") rfl)
  n_sorted := He.free_ok X G (c.d.fact 41 (f := .free "sorted") rfl)
  n_str := He.free_ok X G (c.d.fact 42 (f := .free "str") rfl)
  n_tuple := He.free_ok X G (c.d.fact 43 (f := .free "tuple") rfl)
  c_EMPTY := He.str_ok X G (c.d.fact 44 (f := .str "EMPTY" ".") rfl)
  c_MOST_LINES := He.int_ok X G (c.d.fact 45 (f := .int "MOST_LINES" 5) rfl)
  c_SIGNS := He.str_ok X G (c.d.fact 46 (f := .str "SIGNS" ".<>x") rfl)
  mg_Board := He.glo_ok X G (c.d.fact 47 (f := .glo "Board") rfl)
  cls_Board := He.cls_ok (c.d.fact 48 (f := .cls "Board") rfl)
  ok_Board := clsOk_of (He.cls_ok (c.d.fact 48 (f := .cls "Board") rfl)) (ckAt c.k 0 rfl)
  na_Board_table := He.noat_ok (c.d.fact 49 (f := .noat "Board" "table") rfl)
end LW
namespace LW
open PySem PySem.W PySem.Calls PyProof.Rows
abbrev rw0 := OpenLaw.row PySem.Challenge.rw_wovenframes_k67_whole_what_comes_along
theorem h_e : opening rw0.prog = plainProg rw0.prog.main.scope.names := by kernel_rfl
theorem h_f : ∀ s, fenceModules? rw0.prog s = some s := fun s => by kernel_rfl
theorem h_def : defOf (view rw0.prog [47]) rw0.name = some (HandSHeadRun.topDef rw0.prog 47, []) := by kernel_rfl
theorem h_p : rw0.prog.theDef rw0.name = some ((HandSHeadRun.topDef rw0.prog 47).params, (HandSHeadRun.topDef rw0.prog 47).body, (HandSHeadRun.topDef rw0.prog 47).scope) := by kernel_rfl
theorem h_k : kwWritten? (HandSHeadRun.topDef rw0.prog 47).params.kwonlyargs (HandSHeadRun.topDef rw0.prog 47).params.kw_defaults = some [] := by kernel_rfl
theorem h_wr : (!rw0.writes || rw0.records.isEmpty) = true := by rfl
theorem h_k1 : rw0.wellSaid = true := by decide +kernel
theorem h_ok : (chainsOk (view rw0.prog [47]) && opensWell rw0.prog && (frees rw0.toRowW && rw0.within.isEmpty)) = true := by decide +kernel
theorem h_b : rw0.prog.bare := ⟨rfl, rfl, rfl, rfl, rfl, by decide +kernel⟩
theorem h_w : rw0.toRowW.promised := by w_witness2
theorem h_nm : (HandSHeadRun.topDef rw0.prog 47).name = ("law" : PySem.Str) := by kernel_rfl
theorem h_call (ht : ∀ (ns : List Int), ns.length ≤ 63 → F_law [.scr ns] = .ret (.bl true)) : WalkO (view rw0.prog [47]) names (XL (view rw0.prog [47]) []) hk.says rw0.toRowW (HandSHeadRun.topDef rw0.prog 47) [] fun f vs => PySem.call f vs := by
    refine L2.walk_ofE (l := PySem.Challenge.rw_wovenframes_k67_whole_what_comes_along) (n := 63) (k := 10) (x := "_law_script") (CX := L2.CX0) rfl (by decide) (by kernel_rfl) ⟨rfl, by decide, by decide⟩ ?F (fun _ _ _ _ z => z)
    intro w mg fa h Y G hmg0
    obtain ⟨K, KX, c⟩ := Y
    have hmg : mg ("law" : PySem.Str) = some (.ref fa) := by
      rw [← h_nm]
      exact hmg0
    have T := LW.txt KX G c
    obtain ⟨f, fd, F0, m0⟩ := T.d_law
    have ef : f = fa := by
      have e := (show mg ("law" : PySem.Str) = some (.ref f) from m0).symm.trans hmg
      injection e with e
      injection e
    subst ef
    have b := L2.FunD.bindsA (ps := ["_law_script"]) F0 fun _ _ _ _ _ _ us hl => match us, hl with | [_], _ => rfl
    exact ⟨K, fd, _, KX, fun s v => b s [v] rfl, fun H a ns hl _ hS => ML.law_sp (u := LW.uv K (He.ga K "Board")) ht H a ns hl hS, fun base _ _ => LW.okd_law T F0⟩
theorem h_row (ht : ∀ (ns : List Int), ns.length ≤ 63 → F_law [.scr ns] = .ret (.bl true)) : OpenRow.Holds rw0 :=
  HandSHeadRun.head_any (r := rw0) (q := view rw0.prog [47]) (H := hk) (ob := ob) (M := 40000) (loose := names) (d := HandSHeadRun.topDef rw0.prog 47) (kwd := []) ob_eq h_e h_f run h_def h_p h_k h_wr h_k1 h_ok h_b h_w (h_call ht)
end LW
namespace LW
open PySem PySem.Spec PyProof.Rows L2 ML
end LW
end
section
namespace LW
open PySem (Str)
open L2 ML
abbrev Tb := List (List Nat)
def lnD (r : List Nat) : D := .str ⟨r.toArray⟩
def clsD (t : Tb) : D := .tup (t.map lnD)
def bdD (t : Tb) : D := .obj 0 ["table"] [clsD t]
def wd (t : Tb) : Nat := (t.headD []).length
def thr (t : Tb) : Nat := t.length + wd t
structure BOk (t : Tb) : Prop where
  h1 : 1 ≤ t.length
  h5 : t.length ≤ 5
  w1 : 1 ≤ wd t
  w5 : wd t ≤ 5
  sq : ∀ r ∈ t, r.length = wd t
  sg : ∀ r ∈ t, ∀ c ∈ r, c = 46 ∨ c = 60 ∨ c = 62 ∨ c = 120
theorem str_signs : (".<>x" : Str) = ⟨#[46, 60, 62, 120]⟩ := by decide +kernel
theorem str_gx : (">x" : Str) = ⟨#[62, 120]⟩ := by decide +kernel
theorem str_lx : ("<x" : Str) = ⟨#[60, 120]⟩ := by decide +kernel
theorem sub_one (c : Nat) (l : List Nat) : subB ⟨#[c]⟩ ⟨l.toArray⟩ = decide (c ∈ l) := by
  have h := PySem.StrLaws.found_one ⟨l.toArray⟩ c
  simpa [subB] using h
theorem inD_one (c : Nat) (l : List Nat) : inD (.str ⟨#[c]⟩) (.str ⟨l.toArray⟩) = some (.bl (decide (c ∈ l))) := by
  simp [inD, inB, sub_one]
theorem len_ln (r : List Nat) : (⟨r.toArray⟩ : Str).length = r.length := by simp [PySem.Str.length]
theorem signs_ln (r : List Nat) : signsD ⟨r.toArray⟩ = r.map fun c => D.str ⟨#[c]⟩ := by simp [signsD]
theorem bd_tab {t : Tb} {ε : Env} : fldK 0 "table" (bdD t) ε = .ok (clsD t) ε := by
  simp [bdD]
theorem ix0 {t : Tb} (h : BOk t) : ixD (clsD t) (.int 0) = some (lnD (t.headD [])) := by
  have h1 := h.h1
  match t, h1 with
  | r :: t, _ => simp [clsD, ixD, atI, ixN]
theorem star_cls {t : Tb} {ε : Env} {fr : Env → Out (List D)} : starK fr (clsD t) ε = (fr ε).bnd (starK2 (t.map lnD)) := rfl
theorem star_ln {r : List Nat} {ε : Env} {fr : Env → Out (List D)} (h : r.length ≤ 100000) : starK fr (lnD r) ε = (fr ε).bnd (starK2 (r.map fun c => D.str ⟨#[c]⟩)) := by
  simp [lnD, signs_ln, h]
theorem F_len_eq {t : Tb} (h : BOk t) : F_Board___len__ [bdD t] = .ret (.int (thr t)) := by
  have w5 := h.w5
  have h5 := h.h5
  have e : (t.headD []).length = wd t := rfl
  have h6 : t.length + wd t ≤ 100000 := by omega
  simp [F_Board___len__, runF, B_Board___len__, envOf, bd_tab, ix0 h, star_cls, star_ln (r := t.headD []) (by omega), -List.headD_eq_head?_getD, e, h6, thr]
theorem lenA_bd {t : Tb} (h : BOk t) : lenA 0 F_Board___len__ [bdD t] = some (.int (thr t)) := by
  have hh := F_len_eq h
  have w5 := h.w5
  have h5 := h.h5
  have hb : bdD t = .obj 0 ["table"] [clsD t] := rfl
  simp only [lenA, oneD, hb, if_true]
  rw [← hb, hh]
  have : (thr t : Int) < 9223372036854775808 := by simp only [thr]; omega
  simp [this]
theorem F_need_board_eq (t : Tb) : F_need_board [bdD t] = .ret .non := by
  simp [F_need_board, runF, B_need_board, envOf, bdD, isoK]
def isFrom (d : D) (lo hi : Int) : Bool := match d with
  | .int v => decide (lo ≤ v) && decide (v ≤ hi)
  | _ => false
theorem F_is_from_eq {d : D} (lo hi : Int) (h : ∀ ns, d ≠ .scr ns) : F_is_from [d, .int lo, .int hi] = .ret (.bl (isFrom d lo hi)) := by
  cases d with
  | scr ns => exact absurd rfl (h ns)
  | int v =>
    by_cases h1 : lo ≤ v <;> simp [F_is_from, runF, B_is_from, envOf, isiK, isiB, kindD, isFrom, h1]
  | bl b => simp [F_is_from, runF, B_is_from, envOf, isiK, isiB, kindD, isFrom]
  | _ => simp [F_is_from, runF, B_is_from, envOf, isiK, isiB, kindD, isFrom]
theorem len_lnA {r : List Nat} (h : r.length ≤ 100000) : lenA 0 F_Board___len__ [lnD r] = some (.int r.length) := by
  unfold lnD
  rw [lenA_str (by rw [len_ln]; exact h), len_ln]
theorem F_is_line_ok {r : List Nat} (h1 : 1 ≤ r.length) (h5 : r.length ≤ 5) (sg : ∀ c ∈ r, c = 46 ∨ c = 60 ∨ c = 62 ∨ c = 120) : F_is_line [lnD r] = .ret (.bl true) := by
  have h5' : r.length ≤ 100000 := by omega
  have ei : isiK "str" (lnD r) [Sl.fz (lnD r), .no] = .ok (.bl true) [Sl.fz (lnD r), .no] := rfl
  have e1 : (1 : Int) ≤ (r.length : Int) := by omega
  have e2 : (r.length : Int) ≤ 5 := by omega
  simp [F_is_line, runF, B_is_line, envOf, ei, len_lnA h5', e1, e2]
  have es : itemsD (lnD r) = some (r.map fun c => D.str ⟨#[c]⟩) := by simp [lnD, signs_ln]
  simp only [es, opt_some, bnd_ok, lcK_ap, wipeE_cons, wipeE_nil, List.set_cons_succ, List.set_cons_zero]
  rw [lc_mapg (fun c => D.str ⟨#[c]⟩) (fun _ => D.bl true) r h5' ?_]
  · simp [allD_true]
  · intro c hc
    have := sg c hc
    have e : inD (.str ⟨#[c]⟩) (.str ".<>x") = some (.bl true) := by
      rw [str_signs, inD_one c [46, 60, 62, 120]]
      simp [this]
    simp [lc1, e]
theorem clsD_it (t : Tb) : itemsD (clsD t) = some (t.map lnD) := rfl
theorem F_init_ok {t : Tb} (h : BOk t) : F_Board___init__ (.obj 0 [] []) [clsD t] = .ret .non (bdD t) := by
  have h1 := h.h1
  have h5 := h.h5
  have w5 := h.w5
  have ei : isiK "tuple" (clsD t) [.ow (.obj 0 [] []), .fz (clsD t), .no] = .ok (.bl true) [.ow (.obj 0 [] []), .fz (clsD t), .no] := rfl
  have el : lenA 0 F_Board___len__ [clsD t] = some (.int t.length) := by simp [clsD]
  have e1 : (1 : Int) ≤ (t.length : Int) := by omega
  have e2 : (t.length : Int) ≤ 5 := by omega
  have ea : lcL [2] (gnF 2) tYesF (callF 1 (consF (varF 2) nilF) F_is_line) (t.map lnD) [] [.ow (.obj 0 [] []), .fz (clsD t), .no] = .ok (t.map fun _ => D.bl true) [.ow (.obj 0 [] []), .fz (clsD t), .no] := by
    refine lc_mapg _ _ _ (by omega) fun r hr => ?_
    have hl := h.sq r hr
    have w1 := h.w1
    simp [lc1, F_is_line_ok (r := r) (by omega) (by omega) (h.sg r hr)]
  have eb : lcL [2] (gnF 2) tYesF (op2F (cbF (consF (varF 2) nilF) (lenA 0 F_Board___len__)) (cbF (consF (op2F (varF 1) (cF (.int 0)) ixD) nilF) (lenA 0 F_Board___len__)) eqD) (t.map lnD) [] [.ow (.obj 0 [] []), .fz (clsD t), .no] = .ok (t.map fun _ => D.bl true) [.ow (.obj 0 [] []), .fz (clsD t), .no] := by
    refine lc_mapg _ _ _ (by omega) fun r hr => ?_
    have hl := h.sq r hr
    have e : (t.headD []).length = wd t := rfl
    simp [lc1, len_lnA (r := r) (by omega), ix0 h, len_lnA (r := t.headD []) (by omega), -List.headD_eq_head?_getD, hl, e]
  simp [F_Board___init__, runM, B_Board___init__, envM, ei, el, e1, e2, clsD_it, ea, allD_true, eb, sfldF, bdD, putN]
theorem F_many_eq {t : Tb} (h : BOk t) : F__law_many [clsD t] = .ret (.int (thr t)) := by
  have w5 := h.w5
  have e : (t.headD []).length = wd t := rfl
  have el : lenA 0 F_Board___len__ [clsD t] = some (.int t.length) := by simp [clsD]
  simp [F__law_many, runF, B__law_many, envOf, el, ix0 h, len_lnA (r := t.headD []) (by omega), -List.headD_eq_head?_getD, e, thr]
theorem F_is_thread_eq {t : Tb} (h : BOk t) {d : D} (hd : ∀ ns, d ≠ .scr ns) : F_is_thread [bdD t, d] = .ret (.bl (isFrom d 0 ((thr t : Int) - 1))) := by
  simp [F_is_thread, runF, B_is_thread, envOf, lenA_bd h, F_is_from_eq 0 ((thr t : Int) - 1) hd]
def RowOk (d : D) : Prop := ∃ (ns : List Int) (a b c : Int), d = .lst [.scr ns, .int a, .int b, .int c] ∧ 0 ≤ a
theorem F_taken_ok {d : D} (h : RowOk d) {m : Int} (h0 : 0 < m) (h1 : m < 1073741824) : ∃ v d', F__law_taken d [.int m] = .ret (.int v) d' ∧ 0 ≤ v ∧ v < m ∧ RowOk d' := by
  obtain ⟨ns, a, b, c, rfl, ha⟩ := h
  have a0 : ∀ (x y z w : D), atI [x, y, z, w] 0 = some x := fun _ _ _ _ => rfl
  have a1 : ∀ (x y z w : D), atI [x, y, z, w] 1 = some y := fun _ _ _ _ => rfl
  have a2 : ∀ (x y z w : D), atI [x, y, z, w] 2 = some z := fun _ _ _ _ => rfl
  have a3 : ∀ (x y z w : D), atI [x, y, z, w] 3 = some w := fun _ _ _ _ => rfl
  have i1 : ixN 4 1 = some 1 := rfl
  have i2 : ixN 4 2 = some 2 := rfl
  have i3 : ixN 4 3 = some 3 := rfl
  have hmod : ∀ x : Int, 0 ≤ x % m ∧ x % m < m := fun x => ⟨Int.emod_nonneg _ (by omega), Int.emod_lt_of_pos _ h0⟩
  have emul : ∀ x : Int, mulD (.int x) (.int 48271) = some (.int (x * 48271)) := fun x => by simp [mulD]
  by_cases hc : 0 < c
  · refine ⟨c % m, .lst [.scr ns, .int a, .int b, .int (c / m)], ?_, (hmod c).1, (hmod c).2, ns, a, b, c / m, rfl, ha⟩
    simp [F__law_taken, runM, B__law_taken, envM, a0, a1, a2, a3, i1, i2, i3, hc, modD_int h0, fdivD_int h0 h1]
  · by_cases hn : (ns.length : Int) < a + 1
    · refine ⟨((b * 48271 + 11) % 2147483647) / 7 % m, .lst [.scr ns, .int (a + 1), .int ((b * 48271 + 11) % 2147483647), .int c], ?_, (hmod _).1, (hmod _).2, ns, a + 1, _, c, rfl, by omega⟩
      simp [F__law_taken, runM, B__law_taken, envM, a0, a1, a2, a3, i1, i2, i3, hc, hn, modD_int h0, emul, modD_int (j := 2147483647) (by omega), fdivD_int (j := 7) (by omega) (by omega)]
    · have ea : a + 1 - 1 = a := by omega
      have hx : a.toNat < ns.length := by omega
      have ex : ixD (.scr ns) (.int a) = some (.int ns[a.toNat]) := by
        simp [ixD, atI_of ns ha, hx]
      have ep : powD (.int 10) (.int 18) = some (.int 1000000000000000000) := rfl
      by_cases hb : (1000000000000000000 : Int) ≤ ns[a.toNat]
      · refine ⟨ns[a.toNat] % m, .lst [.scr ns, .int (a + 1), .int ((b * 48271 + ns[a.toNat] + 11) % 2147483647), .int (ns[a.toNat] / m)], ?_, (hmod _).1, (hmod _).2, ns, a + 1, _, _, rfl, by omega⟩
        simp [F__law_taken, runM, B__law_taken, envM, a0, a1, a2, a3, i1, i2, i3, hc, hn, modD_int h0, emul, ea, ex, ep, hb, modD_int (j := 2147483647) (by omega), fdivD_int h0 h1]
      · refine ⟨ns[a.toNat] % m, .lst [.scr ns, .int (a + 1), .int ((b * 48271 + ns[a.toNat] + 11) % 2147483647), .int c], ?_, (hmod _).1, (hmod _).2, ns, a + 1, _, _, rfl, by omega⟩
        simp [F__law_taken, runM, B__law_taken, envM, a0, a1, a2, a3, i1, i2, i3, hc, hn, modD_int h0, emul, ea, ex, ep, hb, modD_int (j := 2147483647) (by omega), fdivD_int h0 h1]
def nD (n : Nat) : D := .int (n : Int)
def prD (p : Nat × Nat) : D := .tup [nD p.1, nD p.2]
def cellSt (m i j c : Nat) : List (Nat × Nat) := (if c ∈ [62, 120] then [(i, m + j)] else []) ++ (if c ∈ [60, 120] then [(m + j, i)] else [])
def rowSt (m i : Nat) : Nat → List Nat → List (Nat × Nat)
  | _, [] => []
  | j, c :: cs => cellSt m i j c ++ rowSt m i (j + 1) cs
def rawSt (m : Nat) : Nat → Tb → List (Nat × Nat)
  | _, [] => []
  | i, r :: rs => rowSt m i 0 r ++ rawSt m (i + 1) rs
def enZ {α : Type} (g : α → D) (n : Nat) (xs : List α) : List D := (xs.zipIdx n).map fun p => .tup [nD p.2, g p.1]
theorem enumD_map {α : Type} (g : α → D) (xs : List α) : enumD (xs.map g) = enZ g 0 xs := by
  simp only [enumD, enZ, List.mapIdx_eq_zipIdx_map, List.zipIdx_map, List.map_map]; rfl
@[simp] theorem enZ_nil {α : Type} (g : α → D) (n : Nat) : enZ g n [] = [] := rfl
@[simp] theorem enZ_cons {α : Type} (g : α → D) (n : Nat) (x : α) (xs : List α) : enZ g n (x :: xs) = .tup [nD n, g x] :: enZ g (n + 1) xs := by simp [enZ]
abbrev stBody : Env → SO := (seqF (ifS (testF (op2F (varF 6) (cF (.str ">x")) inD)) (appF 1 (tupF (consF (varF 3) (consF (op2F (varF 2) (varF 5) addD) nilF)))) nxF)
  (ifS (testF (op2F (varF 6) (cF (.str "<x")) inD)) (appF 1 (tupF (consF (op2F (varF 2) (varF 5) addD) (consF (varF 3) nilF)))) nxF))
abbrev sgD (c : Nat) : D := .str ⟨#[c]⟩
theorem rowSt_len (m i : Nat) : ∀ (r : List Nat) (j : Nat), (rowSt m i j r).length ≤ 2 * r.length
  | [], _ => by simp [rowSt]
  | c :: cs, j => by
    have := rowSt_len m i cs (j + 1)
    simp only [rowSt, cellSt, List.length_append, List.length_cons]
    split <;> split <;> simp <;> omega
theorem row_loop (m i : Nat) (b l : Sl) : ∀ (r : List Nat) (j : Nat) (acc : List D) (s5 s6 : Sl), acc.length + 2 * r.length ≤ 100000 →
    ∃ s5' s6', forF (gtupF 2 (gconsF (gnF 5) (gconsF (gnF 6) gnilF))) stBody (enZ sgD j r) [b, .ow (.lst acc), .fz (nD m), .fz (nD i), l, s5, s6] = .nx [b, .ow (.lst (acc ++ (rowSt m i j r).map prD)), .fz (nD m), .fz (nD i), l, s5', s6']
  | [], j, acc, s5, s6, _ => ⟨s5, s6, by simp [forF, rowSt]⟩
  | c :: cs, j, acc, s5, s6, hl => by
    have e1 : inD (.str ⟨#[c]⟩) (.str ">x") = some (.bl (decide (c ∈ [62, 120]))) := by rw [str_gx, inD_one c [62, 120]]
    have e2 : inD (.str ⟨#[c]⟩) (.str "<x") = some (.bl (decide (c ∈ [60, 120]))) := by rw [str_lx, inD_one c [60, 120]]
    have hlen : acc.length < 100000 := by simp at hl; omega
    have hlen2 : acc.length + 1 < 100000 := by simp at hl; omega
    have ea : addD (nD m) (nD j) = some (nD (m + j)) := by simp [nD]
    have hstep : stBody [b, .ow (.lst acc), .fz (nD m), .fz (nD i), l, .fz (nD j), .fz (sgD c)] = .nx [b, .ow (.lst (acc ++ (cellSt m i j c).map prD)), .fz (nD m), .fz (nD i), l, .fz (nD j), .fz (sgD c)] := by
      by_cases h1 : c ∈ [62, 120]
      · by_cases h2 : c ∈ [60, 120]
        · simp only [decide_eq_true h1] at e1
          simp only [decide_eq_true h2] at e2
          simp only [List.mem_cons, List.not_mem_nil, or_false] at h1 h2
          simp [stBody, e1, e2, ea, hlen, hlen2, cellSt, h1, h2, prD]
        · simp only [decide_eq_true h1] at e1
          simp only [decide_eq_false h2] at e2
          simp only [List.mem_cons, List.not_mem_nil, or_false] at h1 h2
          simp [stBody, e1, e2, ea, hlen, hlen2, cellSt, h1, h2, prD]
      · by_cases h2 : c ∈ [60, 120]
        · simp only [decide_eq_false h1] at e1
          simp only [decide_eq_true h2] at e2
          simp only [List.mem_cons, List.not_mem_nil, or_false] at h1 h2
          simp [stBody, e1, e2, ea, hlen, hlen2, cellSt, h1, h2, prD]
        · simp only [decide_eq_false h1] at e1
          simp only [decide_eq_false h2] at e2
          simp only [List.mem_cons, List.not_mem_nil, or_false] at h1 h2
          simp [stBody, e1, e2, ea, hlen, hlen2, cellSt, h1, h2, prD]
    have hc : (cellSt m i j c).length ≤ 2 := by simp only [cellSt]; split <;> split <;> simp
    obtain ⟨s5', s6', h⟩ := row_loop m i b l cs (j + 1) (acc ++ (cellSt m i j c).map prD) (.fz (nD j)) (.fz (sgD c)) (by simp at hl ⊢; omega)
    refine ⟨s5', s6', ?_⟩
    rw [enZ_cons, for_step (ε1 := [b, .ow (.lst acc), .fz (nD m), .fz (nD i), l, .fz (nD j), .fz (sgD c)]) (by simp) hstep, h]
    simp [rowSt]
theorem tab_loop (m : Nat) (b : Sl) : ∀ (t : Tb) (i : Nat) (acc : List D) (s3 s4 s5 s6 : Sl), (∀ r ∈ t, r.length ≤ 5) → acc.length + 10 * t.length ≤ 100000 →
    ∃ s3' s4' s5' s6', forF (gtupF 2 (gconsF (gnF 3) (gconsF (gnF 4) gnilF))) (forS (enF (varF 4)) (gtupF 2 (gconsF (gnF 5) (gconsF (gnF 6) gnilF))) stBody) (enZ lnD i t) [b, .ow (.lst acc), .fz (nD m), s3, s4, s5, s6]
      = .nx [b, .ow (.lst (acc ++ (rawSt m i t).map prD)), .fz (nD m), s3', s4', s5', s6']
  | [], i, acc, s3, s4, s5, s6, _, _ => ⟨s3, s4, s5, s6, by simp [forF, rawSt]⟩
  | r :: t, i, acc, s3, s4, s5, s6, hr, hl => by
    have h5 : r.length ≤ 5 := hr r (by simp)
    obtain ⟨s5', s6', h⟩ := row_loop m i b (.fz (lnD r)) r 0 acc s5 s6 (by simp at hl; omega)
    have hlen := rowSt_len m i r 0
    obtain ⟨a3, a4, a5, a6, h2⟩ := tab_loop m b t (i + 1) (acc ++ (rowSt m i 0 r).map prD) (.fz (nD i)) (.fz (lnD r)) s5' s6' (fun x hx => hr x (by simp [hx])) (by simp at hl ⊢; omega)
    refine ⟨a3, a4, a5, a6, ?_⟩
    rw [enZ_cons, for_step (ε1 := [b, .ow (.lst acc), .fz (nD m), .fz (nD i), .fz (lnD r), s5, s6]) (by simp) (ε2 := [b, .ow (.lst (acc ++ (rowSt m i 0 r).map prD)), .fz (nD m), .fz (nD i), .fz (lnD r), s5', s6']) ?_, h2]
    · simp [rawSt]
    · have es : enumD (signsD ⟨r.toArray⟩) = enZ sgD 0 r := by rw [signs_ln]; exact enumD_map _ _
      have ek : ∀ ε : Env, enK (lnD r) ε = .ok (enZ sgD 0 r) ε := fun ε => by unfold lnD; rw [enK_str, es]
      simp only [forS_ap, enF_ap, varF_ap, List.getElem?_cons_succ, List.getElem?_cons_zero, vOut_fz, bnd_ok, ek, toS_ok, forK_ap]
      exact h
def leP (a b : Nat × Nat) : Bool := PySem.W.dataLe false toPy (prD a) (prD b)
def stL (t : Tb) : List (Nat × Nat) := (rawSt t.length 0 t).mergeSort leP
theorem stL_map (t : Tb) : (stL t).map prD = sortL ((rawSt t.length 0 t).map prD) := List.map_mergeSort fun _ _ _ _ => rfl
theorem sort_pairs (l : List (Nat × Nat)) : sortOk (l.map prD) = true := by
  simp only [sortOk, Bool.and_eq_true]
  refine ⟨⟨?_, ?_⟩, ?_⟩
  · simp only [List.all_map, List.all_eq_true]
    intro a _
    simp only [Function.comp_apply, List.all_map, List.all_eq_true]
    intro b _
    rfl
  · simp only [Bool.or_eq_true]
    left
    simp only [List.all_map, List.all_eq_true]
    intro a _
    rfl
  · simp only [List.all_map, List.all_eq_true]
    intro a _
    rfl
theorem F_steps_eq {t : Tb} (h : BOk t) : F_all_steps [bdD t] = .ret (.lst ((stL t).map prD)) := by
  have el : lenA 0 F_Board___len__ [clsD t] = some (nD t.length) := by simp [clsD, nD]
  have ek : ∀ ε : Env, enK (clsD t) ε = .ok (enZ lnD 0 t) ε := fun ε => by unfold clsD; rw [enK_tup, enumD_map]
  have h5 := h.h5
  have w5 := h.w5
  obtain ⟨a3, a4, a5, a6, h2⟩ := tab_loop t.length (.fz (bdD t)) t 0 [] .no .no .no .no (fun r hr => by rw [h.sq r hr]; exact w5) (by simp; omega)
  simp [F_all_steps, runF, B_all_steps, envOf, bd_tab, el, ek]
  have h2' := h2
  simp only [List.nil_append] at h2'
  rw [show (forF (gtupF 2 (gconsF (gnF 3) (gconsF (gnF 4) gnilF))) (forS (enF (varF 4)) (gtupF 2 (gconsF (gnF 5) (gconsF (gnF 6) gnilF))) stBody) (enZ lnD 0 t) [.fz (bdD t), .ow (.lst []), .fz (nD t.length), .no, .no, .no, .no] : SO) = _ from h2']
  simp [sortAD, oneD, sort_pairs, ← stL_map]
theorem mem_rowSt {m i : Nat} {p : Nat × Nat} : ∀ {r : List Nat} {j : Nat}, p ∈ rowSt m i j r ↔ ∃ k c, r[k]? = some c ∧ p ∈ cellSt m i (j + k) c
  | [], j => by simp [rowSt]
  | c :: cs, j => by
    rw [rowSt, List.mem_append, mem_rowSt]
    constructor
    · rintro (h | ⟨k, c', h1, h2⟩)
      · exact ⟨0, c, rfl, h⟩
      · exact ⟨k + 1, c', by simpa using h1, by rw [show j + (k + 1) = j + 1 + k by omega]; exact h2⟩
    · rintro ⟨k, c', h1, h2⟩
      cases k with
      | zero => simp at h1; subst h1; exact .inl h2
      | succ k => exact .inr ⟨k, c', by simpa using h1, by rw [show j + 1 + k = j + (k + 1) by omega]; exact h2⟩
theorem mem_rawSt {m : Nat} {p : Nat × Nat} : ∀ {t : Tb} {i : Nat}, p ∈ rawSt m i t ↔ ∃ k r, t[k]? = some r ∧ p ∈ rowSt m (i + k) 0 r
  | [], i => by simp [rawSt]
  | r :: t, i => by
    rw [rawSt, List.mem_append, mem_rawSt]
    constructor
    · rintro (h | ⟨k, c', h1, h2⟩)
      · exact ⟨0, r, rfl, h⟩
      · exact ⟨k + 1, c', by simpa using h1, by rw [show i + (k + 1) = i + 1 + k by omega]; exact h2⟩
    · rintro ⟨k, c', h1, h2⟩
      cases k with
      | zero => simp at h1; subst h1; exact .inl h2
      | succ k => exact .inr ⟨k, c', by simpa using h1, by rw [show i + 1 + k = i + (k + 1) by omega]; exact h2⟩
/-- a step from a thread to a thread -/
def Stp (t : Tb) (a b : Nat) : Prop := ∃ i j r c, t[i]? = some r ∧ r[j]? = some c ∧ (((c = 62 ∨ c = 120) ∧ a = i ∧ b = t.length + j) ∨ ((c = 60 ∨ c = 120) ∧ a = t.length + j ∧ b = i))
theorem mem_stL {t : Tb} {a b : Nat} : (a, b) ∈ stL t ↔ Stp t a b := by
  unfold stL
  rw [List.mem_mergeSort, mem_rawSt]
  constructor
  · rintro ⟨i, r, h1, h2⟩
    obtain ⟨j, c, h3, h4⟩ := mem_rowSt.1 h2
    refine ⟨i, j, r, c, h1, h3, ?_⟩
    simp only [Nat.zero_add, cellSt, List.mem_append] at h4
    rcases h4 with h4 | h4
    · split at h4
      · rename_i hc
        simp at hc h4
        exact .inl ⟨hc, h4.1, h4.2⟩
      · simp at h4
    · split at h4
      · rename_i hc
        simp at hc h4
        exact .inr ⟨hc, h4.1, h4.2⟩
      · simp at h4
  · rintro ⟨i, j, r, c, h1, h2, h3⟩
    refine ⟨i, r, h1, mem_rowSt.2 ⟨j, c, h2, ?_⟩⟩
    simp only [Nat.zero_add, cellSt, List.mem_append]
    rcases h3 with ⟨hc, ha, hb⟩ | ⟨hc, ha, hb⟩
    · left; rw [if_pos (by simpa using hc)]; simp [ha, hb]
    · right; rw [if_pos (by simpa using hc)]; simp [ha, hb]
theorem Stp.lt {t : Tb} (h : BOk t) {a b : Nat} (s : Stp t a b) : a < thr t ∧ b < thr t := by
  obtain ⟨i, j, r, c, h1, h2, h3⟩ := s
  have hi := (List.getElem?_eq_some_iff.1 h1).1
  have hj := (List.getElem?_eq_some_iff.1 h2).1
  have hr := h.sq r (List.mem_of_getElem? h1)
  unfold thr
  rcases h3 with ⟨_, rfl, rfl⟩ | ⟨_, rfl, rfl⟩ <;> omega
theorem stL_len {t : Tb} (h : BOk t) : (stL t).length ≤ 50 := by
  unfold stL
  rw [List.length_mergeSort]
  have : ∀ (s : Tb) (i : Nat), (∀ r ∈ s, r.length ≤ 5) → (rawSt t.length i s).length ≤ 10 * s.length := by
    intro s
    induction s with
    | nil => intro i _; simp [rawSt]
    | cons r s ih =>
      intro i hr
      have h1 := ih (i + 1) (fun x hx => hr x (by simp [hx]))
      have h2 := rowSt_len t.length i r 0
      have h3 := hr r (by simp)
      simp only [rawSt, List.length_append, List.length_cons]
      omega
  have h1 := this t 0 (fun r hr => by rw [h.sq r hr]; exact h.w5)
  have := h.h5
  omega
inductive Rch (t : Tb) (s : Nat) : Nat → Prop where
  | refl : Rch t s s
  | step {a b : Nat} : Rch t s a → Stp t a b → Rch t s b
theorem Rch.trans {t : Tb} {a b c : Nat} (h : Rch t a b) (k : Rch t b c) : Rch t a c := by
  induction k with
  | refl => exact h
  | step _ s ih => exact .step ih s
theorem Rch.lt {t : Tb} (h : BOk t) {a b : Nat} (ha : a < thr t) (k : Rch t a b) : b < thr t := by
  induction k with
  | refl => exact ha
  | step _ s _ => exact (s.lt h).2
def iN (n : Nat) : Int := n
def kyN (n : Nat) : L2.Key := .inl (n : Int)
def knD (K : List Nat) : D := .dk (K.map kyN) (K.map fun _ => .bl true)
def nsD (W : List Nat) : D := .lst (W.map nD)
/-- one walk over the steps, from a thread -/
def vis (h : Nat) : List (Nat × Nat) → List Nat × List Nat → List Nat × List Nat
  | [], s => s
  | p :: ps, s => vis h ps (if p.1 = h ∧ p.2 ∉ s.1 then (s.1 ++ [p.2], s.2 ++ [p.2]) else s)
theorem valD_kn (K : List Nat) (n : Nat) : (valD (K.map kyN) (K.map fun _ => D.bl true) (kyN n)).isSome = decide (n ∈ K) := by
  induction K with
  | nil => simp [valD]
  | cons k K ih =>
    simp only [valD, List.map_cons, List.zip_cons_cons, List.find?_cons] at ih ⊢
    by_cases h : k = n
    · subst h; simp
    · have h1 : ¬ (kyN k = kyN n) := by simp [kyN]; omega
      have h2 : ¬ n = k := fun e => h e.symm
      simp only [h1, decide_false]
      rw [ih]
      simp [h2]
theorem put_kn (K : List Nat) (n : Nat) (h : n ∉ K) (hl : K.length < 100000) : dput (knD K) (nD n) (.bl true) = some (knD (K ++ [n])) := by
  have : ¬ kyN n ∈ K.map kyN := by
    intro hx
    obtain ⟨a, ha, e⟩ := List.mem_map.1 hx
    have : a = n := by simp [kyN] at e; omega
    subst this; exact h ha
  have ek : toKey (nD n) = some (kyN n) := rfl
  simp only [dput, knD, putD, ek, Option.bind_some, List.length_map, if_pos hl, if_neg this, List.map_append, List.map_cons, List.map_nil]
abbrev ldBody : Env → SO := (ifS (andT (testF (op2F (varF 7) (varF 6) eqD)) (testF (dinPF true 4 (varF 8)))) (seqF (dputF 4 (cF (.bl true)) (varF 8))
  (appF 5 (varF 8))) nxF)
theorem vis_loop (b t1 t2 t3 : Sl) (h : Nat) : ∀ (ps : List (Nat × Nat)) (K W : List Nat) (s7 s8 : Sl), K.length + ps.length < 100000 → W.length + ps.length < 100000 →
    ∃ s7' s8', forF (gtupF 2 (gconsF (gnF 7) (gconsF (gnF 8) gnilF))) ldBody (ps.map prD) [b, t1, t2, t3, .ow (knD K), .ow (nsD W), .fz (nD h), s7, s8]
      = .nx [b, t1, t2, t3, .ow (knD (vis h ps (K, W)).1), .ow (nsD (vis h ps (K, W)).2), .fz (nD h), s7', s8']
  | [], K, W, s7, s8, _, _ => ⟨s7, s8, by simp [forF, vis]⟩
  | p :: ps, K, W, s7, s8, hK, hW => by
    have hW' : W.length < 100000 := by simp at hW; omega
    have hK' : K.length < 100000 := by simp at hK; omega
    have e1 : eqD (nD p.1) (nD h) = some (.bl (decide (p.1 = h))) := by
      simp only [nD, eqD_int]
      by_cases e : p.1 = h
      · simp [e]
      · simp [e]; omega
    have e2 : dinPK true 4 (nD p.2) [b, t1, t2, t3, .ow (knD K), .ow (nsD W), .fz (nD h), .fz (nD p.1), .fz (nD p.2)] = .ok (.bl (decide (p.2 ∉ K))) [b, t1, t2, t3, .ow (knD K), .ow (nsD W), .fz (nD h), .fz (nD p.1), .fz (nD p.2)] := by
      have ek : toKey (nD p.2) = some (kyN p.2) := rfl
      simp only [dinPK_ap, ek, List.getElem?_cons_succ, List.getElem?_cons_zero, lkAt_ow, knD, dinP2_ap]
      rw [valD_kn]
      simp
    by_cases hc : p.1 = h ∧ p.2 ∉ K
    · have hstep : ldBody [b, t1, t2, t3, .ow (knD K), .ow (nsD W), .fz (nD h), .fz (nD p.1), .fz (nD p.2)] = .nx [b, t1, t2, t3, .ow (knD (K ++ [p.2])), .ow (nsD (W ++ [p.2])), .fz (nD h), .fz (nD p.1), .fz (nD p.2)] := by
        have e3 := put_kn K p.2 hc.2 hK'
        simp only [decide_eq_true hc.1] at e1
        simp only [decide_eq_true hc.2] at e2
        have eo : oL (some (.ow (nsD W))) = some (W.map nD) := rfl
        simp [ldBody, e1, e2, e3, eo, hW', -dinPK_ap]
        simp [nsD]
      obtain ⟨s7', s8', ih⟩ := vis_loop b t1 t2 t3 h ps (K ++ [p.2]) (W ++ [p.2]) (.fz (nD p.1)) (.fz (nD p.2)) (by simp at hK ⊢; omega) (by simp at hW ⊢; omega)
      refine ⟨s7', s8', ?_⟩
      rw [List.map_cons, for_step (ε1 := [b, t1, t2, t3, .ow (knD K), .ow (nsD W), .fz (nD h), .fz (nD p.1), .fz (nD p.2)]) (by simp [prD]) hstep, ih]
      simp [vis, hc]
    · have hstep : ldBody [b, t1, t2, t3, .ow (knD K), .ow (nsD W), .fz (nD h), .fz (nD p.1), .fz (nD p.2)] = .nx [b, t1, t2, t3, .ow (knD K), .ow (nsD W), .fz (nD h), .fz (nD p.1), .fz (nD p.2)] := by
        by_cases h1 : p.1 = h
        · have h2 : ¬ p.2 ∉ K := fun x => hc ⟨h1, x⟩
          simp only [decide_eq_true h1] at e1
          simp only [decide_eq_false h2] at e2
          simp [ldBody, e1, e2, -dinPK_ap]
        · simp only [decide_eq_false h1] at e1
          simp [ldBody, e1, e2, -dinPK_ap]
      obtain ⟨s7', s8', ih⟩ := vis_loop b t1 t2 t3 h ps K W (.fz (nD p.1)) (.fz (nD p.2)) (by simp at hK ⊢; omega) (by simp at hW ⊢; omega)
      refine ⟨s7', s8', ?_⟩
      rw [List.map_cons, for_step (ε1 := [b, t1, t2, t3, .ow (knD K), .ow (nsD W), .fz (nD h), .fz (nD p.1), .fz (nD p.2)]) (by simp [prD]) hstep, ih]
      simp [vis, hc]
/-- what one walk leaves -/
theorem vis_spec (h : Nat) : ∀ (ps : List (Nat × Nat)) (K W : List Nat), ∃ N : List Nat, vis h ps (K, W) = (K ++ N, W ++ N) ∧ (K.Nodup → (K ++ N).Nodup) ∧ (∀ n ∈ N, (h, n) ∈ ps) ∧ ∀ n, (h, n) ∈ ps → n ∈ K ++ N
  | [], K, W => ⟨[], by simp [vis], by simp, by simp, by simp⟩
  | p :: ps, K, W => by
    by_cases hc : p.1 = h ∧ p.2 ∉ K
    · obtain ⟨N, e, hn, hs, hm⟩ := vis_spec h ps (K ++ [p.2]) (W ++ [p.2])
      refine ⟨p.2 :: N, by simp [vis, hc, e], ?_, ?_, ?_⟩
      · intro hk
        have := hn (by simp [List.nodup_append, hk]; intro a ha e; subst e; exact hc.2 ha)
        simpa using this
      · intro n hn'
        rcases List.mem_cons.1 hn' with rfl | h'
        · have : p = (h, p.2) := by rw [← hc.1]
          rw [← this]; simp
        · exact List.mem_cons_of_mem _ (hs n h')
      · intro n hn'
        rcases List.mem_cons.1 hn' with e' | h'
        · rw [← e']; simp
        · have := hm n h'
          simpa using this
    · obtain ⟨N, e, hn, hs, hm⟩ := vis_spec h ps K W
      refine ⟨N, by simp [vis, hc, e], hn, fun n x => List.mem_cons_of_mem _ (hs n x), ?_⟩
      intro n hn'
      rcases List.mem_cons.1 hn' with e' | h'
      · have : p.2 ∈ K := by
          apply Classical.byContradiction
          intro hx
          exact hc ⟨by rw [← e'], hx⟩
        rw [← e'] at this
        simp only [List.mem_append]; exact .inl this
      · exact hm n h'
structure Dfs (t : Tb) (s : Nat) (K W : List Nat) : Prop where
  nd : K.Nodup
  lt : ∀ k ∈ K, k < thr t
  src : s ∈ K
  wk : ∀ w ∈ W, w ∈ K
  rc : ∀ k ∈ K, Rch t s k
  cl : ∀ k ∈ K, k ∉ W → ∀ b, Stp t k b → b ∈ K
theorem Dfs.len {t : Tb} {s : Nat} {K W : List Nat} (d : Dfs t s K W) : K.length ≤ thr t := by
  have := d.nd.length_le_of_subset (l₂ := List.range (thr t)) (fun k hk => List.mem_range.2 (d.lt k hk))
  simpa using this
theorem Dfs.vis {t : Tb} (ok : BOk t) {s h : Nat} {K W : List Nat} (d : Dfs t s K (W ++ [h])) : ∃ N, vis h (stL t) (K, W) = (K ++ N, W ++ N) ∧ Dfs t s (K ++ N) (W ++ N) := by
  obtain ⟨N, e, hn, hs, hm⟩ := vis_spec h (stL t) K W
  have hk : h ∈ K := d.wk h (by simp)
  refine ⟨N, e, hn d.nd, ?_, by simp [d.src], ?_, ?_, ?_⟩
  · intro k hk
    rcases List.mem_append.1 hk with h1 | h1
    · exact d.lt k h1
    · exact ((mem_stL.1 (hs k h1)).lt ok).2
  · intro w hw
    rcases List.mem_append.1 hw with h1 | h1
    · exact List.mem_append.2 (.inl (d.wk w (by simp [h1])))
    · exact List.mem_append.2 (.inr h1)
  · intro k hk'
    rcases List.mem_append.1 hk' with h1 | h1
    · exact d.rc k h1
    · exact .step (d.rc h hk) (mem_stL.1 (hs k h1))
  · intro k hk' hw b sb
    by_cases e : k = h
    · subst e; exact hm b (mem_stL.2 sb)
    · rcases List.mem_append.1 hk' with h1 | h1
      · exact List.mem_append.2 (.inl (d.cl k h1 (fun x => by
          rcases List.mem_append.1 x with h2 | h2
          · exact hw (List.mem_append.2 (.inl h2))
          · exact e (by simpa using h2)) b sb))
      · exact absurd (List.mem_append.2 (.inr h1)) hw
theorem Dfs.done {t : Tb} {s : Nat} {K : List Nat} (d : Dfs t s K []) (b : Nat) : b ∈ K ↔ Rch t s b := by
  refine ⟨d.rc b, fun h => ?_⟩
  induction h with
  | refl => exact d.src
  | step _ sb ih => exact d.cl _ ih (by simp) _ sb
/-- what a thread leads to, ascending -/
noncomputable def rchL (t : Tb) (s : Nat) : List Nat := by
  classical
  exact (List.range (thr t)).filter fun b => decide (Rch t s b)
theorem mem_rchL {t : Tb} (ok : BOk t) {s : Nat} (hs : s < thr t) {b : Nat} : b ∈ rchL t s ↔ Rch t s b := by
  classical
  simp only [rchL, List.mem_filter, List.mem_range, decide_eq_true_eq]
  exact ⟨fun h => h.2, fun h => ⟨h.lt ok hs, h⟩⟩
theorem rchL_sorted (t : Tb) (s : Nat) : (rchL t s).Pairwise (· < ·) := by
  classical
  exact List.Pairwise.filter _ List.pairwise_lt_range
theorem keyInts_kn (K : List Nat) : keyInts (K.map kyN) = some (K.map iN) := by
  induction K with
  | nil => rfl
  | cons k K ih => simp [keyInts, kyN, iN] at ih ⊢; exact ih
theorem sort_kn {t : Tb} (ok : BOk t) {s : Nat} (hs : s < thr t) {K : List Nat} (d : Dfs t s K []) : sortAD [knD K] = some (nsD (rchL t s)) := by
  have hl := d.len
  have h5 := ok.h5
  have w5 := ok.w5
  have hl' : K.length < 64 := by unfold thr at hl; omega
  have e : sortI (K.map iN) = (rchL t s).map iN := by
    refine List.Perm.eq_of_pairwise (le := (· ≤ ·)) (fun a b _ _ => Int.le_antisymm) ?_ ?_ ?_
    · have := List.pairwise_mergeSort (le := fun a b : Int => decide (a ≤ b)) (fun a b c h1 h2 => by simp at *; omega) (fun a b => by simp; omega) (K.map iN)
      exact this.imp (fun h => by simpa using h)
    · rw [List.pairwise_map]
      exact (rchL_sorted t s).imp (fun h => by simp only [iN]; omega)
    · refine (List.mergeSort_perm _ _).trans (List.Perm.map _ ?_)
      have nd2 : (rchL t s).Nodup := (rchL_sorted t s).imp (fun h => by omega)
      exact (List.perm_ext_iff_of_nodup d.nd nd2).2 fun b => (d.done b).trans (mem_rchL ok hs).symm
  simp [sortAD, oneD, knD, keyInts_kn, hl', e, nsD]
  intro a _
  rfl
abbrev ldRound : Env → SO := (seqF (asgF (popF 5) (gnF 6))
  (forS (itF (varF 1)) (gtupF 2 (gconsF (gnF 7) (gconsF (gnF 8) gnilF))) ldBody))
abbrev ldTest : Env → Out Bool := testF (opPLF 5 (frzF (lstM nilF)) neD)
theorem ne_nil (W : List Nat) (h : W.length ≤ 100) : neD (nsD W) (.lst []) = some (.bl (!W.isEmpty)) := by
  have hp : okPy (nsD W) = true := by
    have : ∀ W : List Nat, PySem.PyData.canLayAll0 (toPyL (W.map nD)) = true ∧ PySem.PyData.depthAll (toPyL (W.map nD)) = 0 := by
      intro W
      induction W with
      | nil => exact ⟨rfl, rfl⟩
      | cons w W ih => simp [toPyL, toPy, nD, PySem.PyData.canLayAll0, PySem.PyData.canLay0, PySem.PyData.depthAll, PySem.PyData.depth] at ih ⊢; exact ih
    have h1 := (this W).1
    have h2 := (this W).2
    simp [okPy, nsD, toPy, PySem.SeqAt.shaped, PySem.PyData.canLay0, PySem.PyData.depth, h1, h2]
  have he : okPy (.lst []) = true := rfl
  simp only [neD, hp, he, Bool.and_self, if_true]
  congr 1
  cases W <;> rfl
theorem wh_loop {t : Tb} (ok : BOk t) (b t2 t3 : Sl) (s : Nat) : ∀ (n : Nat) (K W : List Nat) (s6 s7 s8 : Sl), Dfs t s K W → W.length + 2 * (thr t - K.length) < n → W.length ≤ K.length →
    ∃ K' s6' s7' s8', Dfs t s K' [] ∧ whF ldTest ldRound n [b, .fz (.lst ((stL t).map prD)), t2, t3, .ow (knD K), .ow (nsD W), s6, s7, s8] = .nx [b, .fz (.lst ((stL t).map prD)), t2, t3, .ow (knD K'), .ow (nsD []), s6', s7', s8']
  | 0, _, _, _, _, _, _, h, _ => by omega
  | n + 1, K, W, s6, s7, s8, d, hm, hWK => by
    have hl := d.len
    have h5 := ok.h5
    have w5 := ok.w5
    have hsl := stL_len ok
    have ht : thr t ≤ 10 := by unfold thr; omega
    have et : ldTest [b, .fz (.lst ((stL t).map prD)), t2, t3, .ow (knD K), .ow (nsD W), s6, s7, s8] = .ok (!W.isEmpty) [b, .fz (.lst ((stL t).map prD)), t2, t3, .ow (knD K), .ow (nsD W), s6, s7, s8] := by
      have := ne_nil W (by omega)
      simp [ldTest, this]
    rcases List.eq_nil_or_concat W with rfl | ⟨W0, h, rfl⟩
    · refine ⟨K, s6, s7, s8, d, ?_⟩
      rw [whF, et]; rfl
    · simp only [List.concat_eq_append] at *
      obtain ⟨N, ev, d'⟩ := d.vis ok
      have hl' := d'.len
      obtain ⟨s7', s8', hv⟩ := vis_loop b (.fz (.lst ((stL t).map prD))) t2 t3 h (stL t) K W0 s7 s8 (by omega) (by simp at hWK; omega)
      rw [ev] at hv
      obtain ⟨K', a6, a7, a8, dK, hw⟩ := wh_loop ok b t2 t3 s n (K ++ N) (W0 ++ N) (.fz (nD h)) s7' s8' d' (by simp at hm hl' ⊢; omega) (by simp at hWK ⊢; omega)
      refine ⟨K', a6, a7, a8, dK, ?_⟩
      have er : ldRound [b, .fz (.lst ((stL t).map prD)), t2, t3, .ow (knD K), .ow (nsD (W0 ++ [h])), s6, s7, s8] = .nx [b, .fz (.lst ((stL t).map prD)), t2, t3, .ow (knD (K ++ N)), .ow (nsD (W0 ++ N)), .fz (nD h), s7', s8'] := by
        have ep : popF 5 [b, .fz (.lst ((stL t).map prD)), t2, t3, .ow (knD K), .ow (nsD (W0 ++ [h])), s6, s7, s8] = .ok (nD h) [b, .fz (.lst ((stL t).map prD)), t2, t3, .ow (knD K), .ow (nsD W0), s6, s7, s8] := by
          simp [nsD]
        simp only [ldRound, seqF_ap, asgF_ap, ep, toS_ok, asgK_ap, gnF_ap, optS_some, thn_nx, List.set_cons_succ, List.set_cons_zero, forS_ap, itF_ap, varF_ap, List.getElem?_cons_succ, List.getElem?_cons_zero, vOut_fz, bnd_ok, itK_ap, itemsD_lst, opt_some, forK_ap]
        exact hv
      rw [whF, et]
      simp only [toS_ok]
      rw [if_pos (by simp), er]
      exact hw
abbrev ldOuter : Env → SO := (seqF (parF 4 5 (done1M (varF 3) (cF (.bl true))) (lstM (consF (varF 3) nilF)))
  (seqF (whF ldTest ldRound fuel)
  (appF 2 (cbF (consF (varF 4) nilF) sortAD))))
theorem out_loop {t : Tb} (ok : BOk t) (b : Sl) : ∀ (n s : Nat) (acc : List D) (s3 s4 s5 s6 s7 s8 : Sl), s + n ≤ thr t → acc.length + n < 100000 →
    ∃ s3' s4' s5' s6' s7' s8', forF (gnF 3) ldOuter ((List.range' s n).map nD) [b, .fz (.lst ((stL t).map prD)), .ow (.lst acc), s3, s4, s5, s6, s7, s8]
     = .nx [b, .fz (.lst ((stL t).map prD)), .ow (.lst (acc ++ (List.range' s n).map fun s => nsD (rchL t s))), s3', s4', s5', s6', s7', s8']
  | 0, s, acc, s3, s4, s5, s6, s7, s8, _, _ => ⟨s3, s4, s5, s6, s7, s8, by simp [forF]⟩
  | n + 1, s, acc, s3, s4, s5, s6, s7, s8, hn, hl => by
    have hs : s < thr t := by omega
    have h5 := ok.h5
    have w5 := ok.w5
    have ht : thr t ≤ 10 := by unfold thr; omega
    have d0 : Dfs t s [s] [s] := ⟨by simp, by simp [hs], by simp, by simp, by simp [Rch.refl], by simp⟩
    obtain ⟨K', a6, a7, a8, dK, hw⟩ := wh_loop ok b (.ow (.lst acc)) (.fz (nD s)) s fuel [s] [s] s6 s7 s8 d0 (by simp [fuel]; omega) (by simp)
    have hst : ldOuter [b, .fz (.lst ((stL t).map prD)), .ow (.lst acc), .fz (nD s), s4, s5, s6, s7, s8] = .nx [b, .fz (.lst ((stL t).map prD)), .ow (.lst (acc ++ [nsD (rchL t s)])), .fz (nD s), .fz (knD K'), .ow (nsD []), a6, a7, a8] := by
      have ek : (toKey (nD s)).map (fun k => (Sl.ow (.dk [k] [.bl true]))) = some (.ow (knD [s])) := rfl
      have en : D.lst [nD s] = nsD [s] := rfl
      simp only [ldOuter, seqF_ap, parF_ap, parK_ap, parK2_ap, done1M_ap, done1K_ap, done1K2_ap, varF_ap, List.getElem?_cons_succ, List.getElem?_cons_zero, vOut_fz, bnd_ok, cF_ap, ek, opt_some, toS_ok, lstM_ap, consF_ap, consK_ap, consK2_ap, nilF_ap, lstK_ap, List.length_cons, List.length_nil, List.set_cons_succ, List.set_cons_zero, thn_nx]
      rw [if_pos (by decide)]
      simp only [toS_ok, parK2_ap, List.set_cons_succ, List.set_cons_zero, thn_nx, en, seqF_ap]
      rw [hw]
      have : acc.length < 100000 := by omega
      simp [sort_kn ok hs dK, this]
    obtain ⟨b3, b4, b5, b6, b7, b8, ih⟩ := out_loop ok b n (s + 1) (acc ++ [nsD (rchL t s)]) (.fz (nD s)) (.fz (knD K')) (.ow (nsD [])) a6 a7 a8 (by omega) (by simp; omega)
    refine ⟨b3, b4, b5, b6, b7, b8, ?_⟩
    rw [List.range'_succ, List.map_cons, for_step (by simp) hst, ih]
    simp
def ldOne : Env → SO := (parF 1 2 (fzM (callF 1 (consF (varF 0) nilF) F_all_steps)) (lstM nilF))
def ldTwo : Env → SO := (forS (rng1F (cbF (consF (varF 0) nilF) (lenA 0 F_Board___len__))) (gnF 3) ldOuter)
theorem rangeD0 (n : Nat) : rangeD 0 n = (List.range' 0 n).map nD := by
  simp [rangeD, List.range_eq_range', nD]
theorem ld_one {t : Tb} (ok : BOk t) : ldOne [.fz (bdD t), .no, .no, .no, .no, .no, .no, .no, .no] = .nx [.fz (bdD t), .fz (.lst ((stL t).map prD)), .ow (.lst []), .no, .no, .no, .no, .no, .no] := by
  simp [ldOne, F_steps_eq ok]
theorem ld_two {t : Tb} (ok : BOk t) : ∃ b3 b4 b5 b6 b7 b8, ldTwo [.fz (bdD t), .fz (.lst ((stL t).map prD)), .ow (.lst []), .no, .no, .no, .no, .no, .no] =
    .nx [.fz (bdD t), .fz (.lst ((stL t).map prD)), .ow (.lst ((List.range' 0 (thr t)).map fun s => nsD (rchL t s))), b3, b4, b5, b6, b7, b8] := by
  have h5 := ok.h5
  have w5 := ok.w5
  have ht : thr t ≤ 10 := by unfold thr; omega
  obtain ⟨b3, b4, b5, b6, b7, b8, ih⟩ := out_loop ok (.fz (bdD t)) (thr t) 0 [] .no .no .no .no .no .no (by omega) (by simp; omega)
  have er : rng1F (cbF (consF (varF 0) nilF) (lenA 0 F_Board___len__)) [.fz (bdD t), .fz (.lst ((stL t).map prD)), .ow (.lst []), .no, .no, .no, .no, .no, .no] = .ok (rangeD 0 (thr t)) [.fz (bdD t), .fz (.lst ((stL t).map prD)), .ow (.lst []), .no, .no, .no, .no, .no, .no] := by
    simp -implicitDefEqProofs [lenA_bd ok, rng1K_nat (n := thr t) (by omega)]
  refine ⟨b3, b4, b5, b6, b7, b8, ?_⟩
  unfold ldTwo
  rw [forS_ap, er, toS_ok, forK_ap, rangeD0, ih, List.nil_append]
theorem ld_eq : B_leads_of = seqF ldOne (seqF ldTwo (retF (varF 2))) := rfl
theorem F_leads_eq {t : Tb} (ok : BOk t) : F_leads_of [bdD t] = .ret (.lst ((List.range' 0 (thr t)).map fun s => nsD (rchL t s))) := by
  obtain ⟨b3, b4, b5, b6, b7, b8, e2⟩ := ld_two ok
  have eE : envOf 9 [bdD t] = [.fz (bdD t), .no, .no, .no, .no, .no, .no, .no, .no] := rfl
  rw [F_leads_of, runF, ld_eq, eE, seqF_ap, ld_one ok, thn_nx, seqF_ap, e2, thn_nx]
  simp
def lotD (L : List Nat) : D := .tup (L.map nD)
structure LOk (t : Tb) (L : List Nat) : Prop where
  lt : ∀ x ∈ L, x < thr t
  so : L.Pairwise (· < ·)
theorem LOk.len {t : Tb} {L : List Nat} (h : LOk t L) : L.length ≤ thr t := by
  have nd : L.Nodup := h.so.imp (fun h => by omega)
  have := nd.length_le_of_subset (l₂ := List.range (thr t)) (fun k hk => List.mem_range.2 (h.lt k hk))
  simpa using this
theorem BOk.thr10 {t : Tb} (h : BOk t) : thr t ≤ 10 := by
  have h5 := h.h5
  have w5 := h.w5
  unfold thr; omega
theorem nD_scr (x : Nat) : ∀ ns, nD x ≠ .scr ns := fun _ h => by cases h
theorem isFrom_nD {t : Tb} (ok : BOk t) {x : Nat} (h : x < thr t) : isFrom (nD x) 0 ((thr t : Int) - 1) = true := by
  simp [isFrom, nD]; omega
theorem rangeD1 (n : Nat) : rangeD 1 n = (List.range n).map fun i => nD (i + 1) := by
  unfold rangeD
  refine List.map_congr_left fun i _ => ?_
  simp only [nD]; congr 1; omega
theorem eqB_nD (a b : Nat) : eqB (nD a) (nD b) = decide (a = b) := by
  show ((a : Int) == (b : Int)) = _
  by_cases h : a = b
  · simp [h]
  · simp [h]; omega
theorem any_nD (L : List Nat) (a : Nat) : ((L.map nD).any fun y => eqB y (nD a)) = decide (a ∈ L) := by
  induction L with
  | nil => simp
  | cons x L ih =>
    rw [List.map_cons, List.any_cons, ih, eqB_nD]
    by_cases h : x = a
    · subst h; simp
    · have : ¬ a = x := fun e => h e.symm
      simp [h, this]
theorem in_lot (L : List Nat) (a : Nat) : inB (nD a) (lotD L) = some (decide (a ∈ L)) := by
  have h : (flatD (nD a) && (L.map nD).all flatD) = true := by
    simp only [Bool.and_eq_true, List.all_map, List.all_eq_true]
    exact ⟨rfl, fun _ _ => rfl⟩
  show (if (flatD (nD a) && (L.map nD).all flatD) = true then some ((L.map nD).any fun y => eqB y (nD a)) else if (okPy (nD a) && okPy (.tup (L.map nD))) = true then some ((L.map nD).any fun y => eqB y (nD a)) else none) = _
  rw [if_pos h, any_nD]
theorem okPy_ns (W : List Nat) : okPy (nsD W) = true := by
  have : ∀ W : List Nat, PySem.PyData.canLayAll0 (toPyL (W.map nD)) = true ∧ PySem.PyData.depthAll (toPyL (W.map nD)) = 0 := by
    intro W
    induction W with
    | nil => exact ⟨rfl, rfl⟩
    | cons w W ih => simp [toPyL, toPy, nD, PySem.PyData.canLayAll0, PySem.PyData.canLay0, PySem.PyData.depthAll, PySem.PyData.depth] at ih ⊢; exact ih
  have h1 := (this W).1
  have h2 := (this W).2
  simp [okPy, nsD, toPy, PySem.SeqAt.shaped, PySem.PyData.canLay0, PySem.PyData.depth, h1, h2]
theorem in_ns (L : List Nat) (a : Nat) : inB (nD a) (nsD L) = some (decide (a ∈ L)) := by
  have hf : (okPy (nD a) && okPy (.lst (L.map nD))) = true := by
    rw [Bool.and_eq_true]; exact ⟨rfl, okPy_ns L⟩
  show (if (okPy (nD a) && okPy (.lst (L.map nD))) = true then some ((L.map nD).any fun y => eqB y (nD a)) else none) = _
  rw [if_pos hf, any_nD]
theorem inD_lot (L : List Nat) (a : Nat) : inD (nD a) (lotD L) = some (.bl (decide (a ∈ L))) := by simp [inD, in_lot]
theorem notInD_lot (L : List Nat) (a : Nat) : notInD (nD a) (lotD L) = some (.bl (!decide (a ∈ L))) := by simp [notInD, in_lot]
theorem inD_ns (L : List Nat) (a : Nat) : inD (nD a) (nsD L) = some (.bl (decide (a ∈ L))) := by simp [inD, in_ns]
def Closed (t : Tb) (L : List Nat) : Prop := ∀ a b, Stp t a b → b ∈ L → a ∈ L
theorem zip_range : ∀ (n k : Nat), (List.range' k n).zipIdx k = (List.range' k n).map fun s => (s, s)
  | 0, _ => rfl
  | n + 1, k => by rw [List.range'_succ, List.zipIdx_cons, zip_range n (k + 1)]; rfl
theorem filterMap_if (p : Nat → Bool) (L : List Nat) : L.filterMap (fun s => if p s = true then some (nD s) else none) = (L.filter p).map nD := by
  induction L with
  | nil => rfl
  | cons x L ih => by_cases h : p x = true <;> simp [h, ih]
noncomputable def leastL (t : Tb) (L : List Nat) : List Nat := (List.range' 0 (thr t)).filter fun s => L.any fun o => decide (o ∈ rchL t s)
theorem least_lot {t : Tb} (L : List Nat) : LOk t (leastL t L) where
  lt := fun x hx => by
    have := (List.mem_filter.1 hx).1
    rw [List.mem_range'] at this
    obtain ⟨i, hi, rfl⟩ := this
    omega
  so := List.Pairwise.filter _ List.pairwise_lt_range'
theorem mem_least {t : Tb} (ok : BOk t) {L : List Nat} {s : Nat} : s ∈ leastL t L ↔ s < thr t ∧ ∃ o ∈ L, Rch t s o := by
  unfold leastL
  rw [List.mem_filter, List.any_eq_true, List.mem_range']
  constructor
  · rintro ⟨⟨i, hi, rfl⟩, o, ho, hd⟩
    exact ⟨by omega, o, ho, (mem_rchL ok (by omega)).1 (of_decide_eq_true hd)⟩
  · rintro ⟨h1, o, ho, hr⟩
    exact ⟨⟨s, by omega, by omega⟩, o, ho, decide_eq_true ((mem_rchL ok h1).2 hr)⟩
theorem least_closed {t : Tb} (ok : BOk t) (L : List Nat) : Closed t (leastL t L) := by
  intro a b s hb
  obtain ⟨_, o, ho, hr⟩ := (mem_least ok).1 hb
  exact (mem_least ok).2 ⟨(s.lt ok).1, o, ho, (Rch.step .refl s).trans hr⟩
theorem F_is_lot_ok {t : Tb} (ok : BOk t) {L : List Nat} (h : LOk t L) : F_is_lot [bdD t, lotD L] = .ret (.bl true) := by
  have hl := h.len
  have ht := ok.thr10
  have ei : ∀ ε : Env, isiK "tuple" (lotD L) ε = .ok (.bl true) ε := fun _ => rfl
  have eit : itemsD (lotD L) = some (L.map nD) := rfl
  have ea : lcL [2] (gnF 2) tYesF (callF 2 (consF (varF 0) (consF (varF 2) nilF)) F_is_thread) (L.map nD) [] [.fz (bdD t), .fz (lotD L), .no, .no] = .ok (L.map fun _ => D.bl true) [.fz (bdD t), .fz (lotD L), .no, .no] := by
    refine lc_mapg _ _ _ (by omega) fun x hx => ?_
    have e := F_is_thread_eq ok (nD_scr x)
    rw [isFrom_nD ok (h.lt x hx)] at e
    simp -implicitDefEqProofs [lc1, e]
  have el : lenA 0 F_Board___len__ [lotD L] = some (.int L.length) := by simp [lotD]
  have er : ∀ ε : Env, rng2K2 (.int 1) (.int L.length) ε = .ok ((List.range (L.length - 1)).map fun i => nD (i + 1)) ε := fun ε => by
    have := rng2K2_nat (i := 1) (j := L.length) (ε := ε) (by omega) (by omega)
    rw [← rangeD1]; exact this
  have eb : lcL [3] (gnF 3) tYesF (op2F (op2F (varF 1) (op2F (varF 3) (cF (.int 1)) subD) ixD) (op2F (varF 1) (varF 3) ixD) (cmpD fun i j => decide (i < j))) ((List.range (L.length - 1)).map fun i => nD (i + 1)) [] [.fz (bdD t), .fz (lotD L), .no, .no]
      = .ok ((List.range (L.length - 1)).map fun _ => D.bl true) [.fz (bdD t), .fz (lotD L), .no, .no] := by
    refine lc_mapg _ _ _ (by simp; omega) fun i hi => ?_
    have hi' : i < L.length - 1 := List.mem_range.1 hi
    have s1 : subD (nD (i + 1)) (.int 1) = some (nD i) := by simp [nD]
    have x1 : ixD (lotD L) (nD i) = some (nD L[i]) := by
      show atI (L.map nD) (i : Int) = _
      rw [ML.atI_nat]; simp [show i < L.length by omega]
    have x2 : ixD (lotD L) (nD (i + 1)) = some (nD L[i + 1]) := by
      show atI (L.map nD) ((i + 1 : Nat) : Int) = _
      rw [ML.atI_nat]; simp [show i + 1 < L.length by omega]
    have hlt : L[i] < L[i + 1] := List.pairwise_iff_getElem.1 h.so i (i + 1) (by omega) (by omega) (by omega)
    have c1 : cmpD (fun i j => decide (i < j)) (nD L[i]) (nD L[i + 1]) = some (.bl true) := by simp [nD, hlt]
    simp -implicitDefEqProofs [lc1, s1, x1, x2, c1]
  have e1 : allD [.lst ((List.range (L.length - 1)).map fun _ => D.bl true)] = some (.bl true) := allD_true _
  have e2 : allD [.lst (L.map fun _ => D.bl true)] = some (.bl true) := allD_true _
  simp -implicitDefEqProofs only [F_is_lot, runF, B_is_lot, envOf, List.map_cons, List.map_nil, List.length_cons, List.length_nil, List.cons_append, List.nil_append, List.replicate, seqF_ap, ifS_ap, orT_ap, notT_ap, testF_ap, isiF_ap, varF_ap, List.getElem?_cons_succ, List.getElem?_cons_zero, vOut_fz, bnd_ok, ei, testK_ap, asB_bl, opt_some, notTK_ap, orTK_ap, Bool.not_true, Bool.false_eq_true, if_false,
    cbF_ap, consF_ap, frzF_ap, lcM_ap, itF_ap, itK_ap, eit, lcK_ap, wipeE_cons, wipeE_nil, List.set_cons_succ, List.set_cons_zero, ea, mkL_ap, frzK_ap, slget_ow, consK_ap, nilF_ap, consK2_ap, cbK_ap, e2, toS_ok, ifSK_ap, nxF_ap, thn_nx, retF_ap, rng2F_ap, cF_ap, rng2K_ap, el, er, eb, e1, retK_ap, fin_rt]
theorem F_need_lot_ok {t : Tb} (ok : BOk t) {L : List Nat} (h : LOk t L) : F_need_lot [bdD t, lotD L] = .ret .non := by
  simp -implicitDefEqProofs [F_need_lot, runF, B_need_lot, envOf, F_need_board_eq, F_is_lot_ok ok h]
theorem F_least_ok {t : Tb} (ok : BOk t) {L : List Nat} (h : LOk t L) : F_least_closed [bdD t, lotD L] = .ret (lotD (leastL t L)) := by
  have ht := ok.thr10
  have hl := h.len
  have ee : enumD ((List.range' 0 (thr t)).map fun s => nsD (rchL t s)) = (List.range' 0 (thr t)).map fun s => .tup [nD s, nsD (rchL t s)] := by
    rw [enumD_map, enZ, zip_range, List.map_map]; rfl
  have ea : ∀ (b : Sl) (g : List Nat) (s3 s4 : Sl), lcL [5] (gnF 5) tYesF (op2F (varF 5) (varF 4) inD) (L.map nD) [] [b, .fz (lotD L), s3, s4, .fz (nsD g), .no] = .ok (L.map fun o => D.bl (decide (o ∈ g))) [b, .fz (lotD L), s3, s4, .fz (nsD g), .no] := by
    intro b g s3 s4
    refine lc_mapg _ _ _ (by omega) fun x hx => ?_
    simp -implicitDefEqProofs [lc1, inD_ns]
  have eb : ∀ (b c : Sl), lcL [3, 4] (gtupF 2 (gconsF (gnF 3) (gconsF (gnF 4) gnilF))) (testF (cbF (consF (frzF (lcM [5] (itF (varF 1)) (gnF 5) tYesF (op2F (varF 5) (varF 4) inD))) nilF) anyD)) (varF 3) ((List.range' 0 (thr t)).map fun s => .tup [nD s, nsD (rchL t s)]) [] [b, .fz (lotD L), c, .no, .no, .no]
      = .ok ((List.range' 0 (thr t)).filterMap fun s => if (L.any fun o => decide (o ∈ rchL t s)) = true then some (nD s) else none) [b, .fz (lotD L), c, .no, .no, .no] := by
    intro b c
    refine lc_fmg _ _ _ (by simp; omega) fun s hs => ?_
    have an := anyD_map (fun o => decide (o ∈ rchL t s)) L
    have eit : itemsD (lotD L) = some (L.map nD) := rfl
    cases e : L.any fun o => decide (o ∈ rchL t s)
    · rw [e] at an
      simp -implicitDefEqProofs [lc1, eit, ea, an]
    · rw [e] at an
      simp -implicitDefEqProofs [lc1, eit, ea, an]
  simp only [filterMap_if] at eb
  have el : ((List.range' 0 (thr t)).filter fun s => L.any fun o => decide (o ∈ rchL t s)) = leastL t L := rfl
  simp only [el] at eb
  simp -implicitDefEqProofs [F_least_closed, runF, B_least_closed, envOf, F_need_lot_ok ok h, F_leads_eq ok, ee, eb]
  rfl
def isSg (c : Nat) : Prop := c = 46 ∨ c = 60 ∨ c = 62 ∨ c = 120
def pals : List (List Nat) := [[46, 60, 62, 120], [46, 46, 46, 46, 60, 62, 120], [60, 62], [60, 62, 120], [46, 120], [62, 62, 62, 62, 62, 62, 60], [46, 46, 46, 46, 46, 60, 62], [46], [120], [62]]
theorem pals_ok : ∀ p ∈ pals, 1 ≤ p.length ∧ p.length ≤ 7 ∧ ∀ c ∈ p, isSg c := by
  unfold isSg; decide
theorem pals_str : [D.str ".<>x", .str "....<>x", .str "<>", .str "<>x", .str ".x", .str ">>>>>><", .str ".....<>", .str ".", .str "x", .str ">"] = pals.map lnD := by
  have e1 : (".<>x" : Str) = ⟨#[46, 60, 62, 120]⟩ := by decide +kernel
  have e2 : ("....<>x" : Str) = ⟨#[46, 46, 46, 46, 60, 62, 120]⟩ := by decide +kernel
  have e3 : ("<>" : Str) = ⟨#[60, 62]⟩ := by decide +kernel
  have e4 : ("<>x" : Str) = ⟨#[60, 62, 120]⟩ := by decide +kernel
  have e5 : (".x" : Str) = ⟨#[46, 120]⟩ := by decide +kernel
  have e6 : (">>>>>><" : Str) = ⟨#[62, 62, 62, 62, 62, 62, 60]⟩ := by decide +kernel
  have e7 : (".....<>" : Str) = ⟨#[46, 46, 46, 46, 46, 60, 62]⟩ := by decide +kernel
  have e8 : ("." : Str) = ⟨#[46]⟩ := by decide +kernel
  have e9 : ("x" : Str) = ⟨#[120]⟩ := by decide +kernel
  have e10 : (">" : Str) = ⟨#[62]⟩ := by decide +kernel
  simp only [e1, e2, e3, e4, e5, e6, e7, e8, e9, e10]
  rfl
theorem ix_ln {r : List Nat} (hl : r.length ≤ 100000) {k : Nat} (h : k < r.length) : ixD (lnD r) (nD k) = some (sgD r[k]) := by
  show (if (⟨r.toArray⟩ : Str).length ≤ 100000 then _ else _) = _
  rw [len_ln, if_pos hl]
  show (atI r (k : Int)).map _ = _
  rw [ML.atI_nat]; simp [h]
theorem ix_lst {xs : List D} {k : Nat} (h : k < xs.length) : ixD (.lst xs) (nD k) = some xs[k] := by
  show atI xs (k : Int) = _
  rw [ML.atI_nat]; simp [h]
theorem join_one : ∀ cs : List Nat, PySem.Str.join ⟨#[]⟩ (cs.map fun c => (⟨#[c]⟩ : Str)) = ⟨cs.toArray⟩
  | [] => rfl
  | [c] => rfl
  | c :: d :: cs => by
    have ih := join_one (d :: cs)
    show (⟨#[c]⟩ : Str) ++ ⟨#[]⟩ ++ PySem.Str.join ⟨#[]⟩ ((d :: cs).map fun c => (⟨#[c]⟩ : Str)) = _
    rw [ih]
    show (⟨(#[c] ++ #[]) ++ (d :: cs).toArray⟩ : Str) = _
    simp
theorem strs_sg : ∀ cs : List Nat, strsD (cs.map sgD) = some (cs.map fun c => (⟨#[c]⟩ : Str))
  | [] => rfl
  | c :: cs => by simp [strsD, strs_sg cs]
theorem str_nil : ("" : Str) = ⟨#[]⟩ := by decide +kernel
theorem join_sg {cs : List Nat} (h : cs.length ≤ 100) : (strsD (cs.map sgD)).bind (joinS "") = some (lnD cs) := by
  rw [strs_sg, str_nil]
  simp only [Option.bind_some, joinS]
  rw [if_pos]
  · show some (D.str (PySem.Builtin.Str.glued ⟨#[]⟩ (cs.map fun c => (⟨#[c]⟩ : Str)))) = _
    rw [PySem.StrLaws.glued_eq_join, join_one]; rfl
  · have : ∀ cs : List Nat, ((cs.map fun c => (⟨#[c]⟩ : Str)).map (·.length)).sum = cs.length := by
      intro cs
      induction cs with
      | nil => rfl
      | cons c cs ih =>
        rw [List.map_cons, List.map_cons, List.sum_cons, ih]
        simp [PySem.Str.length]; omega
    rw [this]
    simp [PySem.Str.length]; omega
/-- a draw below a natural number -/
theorem F_taken_nat {d : D} (h : RowOk d) {m : Nat} (h0 : 0 < m) (h1 : m < 1000000) : ∃ (v : Nat) (d' : D), F__law_taken d [nD m] = .ret (nD v) d' ∧ v < m ∧ RowOk d' := by
  obtain ⟨v, d', e, v0, v1, r⟩ := F_taken_ok h (m := (m : Int)) (by omega) (by omega)
  refine ⟨v.toNat, d', ?_, by omega, r⟩
  have : (v.toNat : Int) = v := by omega
  simp only [nD, this]; exact e
theorem F_taken_lit {d : D} (h : RowOk d) (m : Nat) (h0 : 0 < m) (h1 : m < 1000000) {i : Int} (hi : i = m) : ∃ (v : Nat) (d' : D), F__law_taken d [.int i] = .ret (nD v) d' ∧ v < m ∧ RowOk d' := by
  subst hi; exact F_taken_nat h h0 h1
theorem line_loop {p : List Nat} (hp : 1 ≤ p.length ∧ p.length ≤ 7 ∧ ∀ c ∈ p, isSg c) (s1 s3 s4 s5 s6 : Sl) {ds : List D} (hl : ds.length ≤ 5) {d : D} (hd : RowOk d) :
    ∃ (cs : List Nat) (d' : D), lcL [7] (gnF 7) tYesF (op2F (varF 2) (callMF 1 0 (consF (cbF (consF (varF 2) nilF) (lenA 0 F_Board___len__)) nilF) F__law_taken) ixD) ds [] [.ow d, s1, .fz (lnD p), s3, s4, s5, s6, .no] = .ok (cs.map sgD) [.ow d', s1, .fz (lnD p), s3, s4, s5, s6, .no]
      ∧ RowOk d' ∧ cs.length = ds.length ∧ ∀ c ∈ cs, isSg c := by
  obtain ⟨acc', ε', e, cs, d', rfl, rfl, hr, hlen, hs⟩ := lc_inv (vs := [7]) (gf := gnF 7) (tf := tYesF) (ef := op2F (varF 2) (callMF 1 0 (consF (cbF (consF (varF 2) nilF) (lenA 0 F_Board___len__)) nilF) F__law_taken) ixD)
    (fun pre acc ε => ∃ (cs : List Nat) (d : D), acc = cs.map sgD ∧ ε = [.ow d, s1, .fz (lnD p), s3, s4, s5, s6, .no] ∧ RowOk d ∧ cs.length = pre.length ∧ ∀ c ∈ cs, isSg c)
    ds [] [] [.ow d, s1, .fz (lnD p), s3, s4, s5, s6, .no] ⟨[], d, rfl, rfl, hd, rfl, by simp⟩ (by simp; omega) (by
      rintro pre x acc ε hx ⟨cs, d, rfl, rfl, hr, hlen, hs⟩
      obtain ⟨v, d', e, hv, hr'⟩ := F_taken_nat hr (m := p.length) (by omega) (by omega)
      have e' : F__law_taken d [.int p.length] = .ret (nD v) d' := e
      refine ⟨some (sgD p[v]), [.ow d', s1, .fz (lnD p), s3, s4, s5, s6, .no], ?_, cs ++ [p[v]], d', by simp, rfl, hr', by simp [hlen], ?_⟩
      · simp -implicitDefEqProofs [lc1, len_lnA (r := p) (by omega), e', ix_ln (r := p) (by omega) hv]
      · intro c hc
        rcases List.mem_append.1 hc with h | h
        · exact hs c h
        · simp at h; subst h; exact hp.2.2 _ (List.getElem_mem hv))
  exact ⟨cs, d', e, hr, by simpa using hlen, hs⟩
structure TOk (m n : Nat) (t : Tb) : Prop where
  m : t.length = m
  n : ∀ r ∈ t, r.length = n
  s : ∀ r ∈ t, ∀ c ∈ r, isSg c
theorem TOk.bok {m n : Nat} {t : Tb} (h : TOk m n t) (m1 : 1 ≤ m) (m5 : m ≤ 5) (n1 : 1 ≤ n) (n5 : n ≤ 5) : BOk t ∧ wd t = n := by
  have hw : wd t = n := by
    have := h.m
    match t, h with
    | [], h => simp at this; omega
    | r :: t, h => exact h.n r (by simp)
  refine ⟨⟨by rw [h.m]; exact m1, by rw [h.m]; exact m5, by rw [hw]; exact n1, by rw [hw]; exact n5, fun r hr => by rw [hw]; exact h.n r hr, h.s⟩, hw⟩
abbrev cellBody : Env → SO := (appF 5 (joinF (cF (.str "")) (frzF (lcM [7] (rng1F (varF 4)) (gnF 7) tYesF (op2F (varF 2) (callMF 1 0 (consF (cbF (consF (varF 2) nilF) (lenA 0 F_Board___len__)) nilF) F__law_taken) ixD)))))
theorem tab_draw {p : List Nat} (hp : 1 ≤ p.length ∧ p.length ≤ 7 ∧ ∀ c ∈ p, isSg c) {n : Nat} (hn : n ≤ 5) (s1 s3 : Sl) : ∀ (ds : List D) (m : Nat) (t : Tb) (d : D) (s6 s7 : Sl), m + ds.length ≤ 5 → TOk m n t → RowOk d →
    ∃ t' d' s6' s7', forF (gnF 6) cellBody ds [.ow d, s1, .fz (lnD p), s3, .fz (nD n), .ow (.lst (t.map lnD)), s6, s7] = .nx [.ow d', s1, .fz (lnD p), s3, .fz (nD n), .ow (.lst (t'.map lnD)), s6', s7'] ∧ TOk (m + ds.length) n t' ∧ RowOk d'
  | [], m, t, d, s6, s7, _, ht, hr => ⟨t, d, s6, s7, rfl, ht, hr⟩
  | x :: ds, m, t, d, s6, s7, hm, ht, hr => by
    obtain ⟨cs, d1, e1, hr1, hl1, hs1⟩ := line_loop hp s1 s3 (.fz (nD n)) (.ow (.lst (t.map lnD))) (.fz x) (ds := rangeD 0 n) (by simp [rangeD]; exact hn) hr
    have hl1' : cs.length = n := by rw [hl1]; simp [rangeD]
    have hst : cellBody [.ow d, s1, .fz (lnD p), s3, .fz (nD n), .ow (.lst (t.map lnD)), .fz x, s7] = .nx [.ow d1, s1, .fz (lnD p), s3, .fz (nD n), .ow (.lst ((t ++ [cs]).map lnD)), .fz x, .no] := by
      have ej := join_sg (cs := cs) (by omega)
      have er : ∀ ε : Env, rng1K (nD n) ε = .ok (rangeD 0 n) ε := fun ε => rng1K_nat (by omega)
      have hlt : t.length < 100000 := by have := ht.m; simp at hm; omega
      simp -implicitDefEqProofs [cellBody, er, e1, ej, hlt]
    obtain ⟨t', d', a6, a7, e2, ht2, hr2⟩ := tab_draw hp hn s1 s3 ds (m + 1) (t ++ [cs]) d1 (.fz x) .no (by simp at hm; omega) ⟨by simp [ht.m], fun r h => by
        rcases List.mem_append.1 h with h | h
        · exact ht.n r h
        · simp at h; subst h; exact hl1', fun r h => by
        rcases List.mem_append.1 h with h | h
        · exact ht.s r h
        · simp at h; subst h; exact hs1⟩ hr1
    refine ⟨t', d', a6, a7, ?_, by rw [List.length_cons, show m + (ds.length + 1) = m + 1 + ds.length by omega]; exact ht2, hr2⟩
    rw [for_step (by simp) hst, e2]
theorem cut_to {r : List Nat} (h : r.length ≤ 100000) (k : Nat) : sliceD (lnD r) none (some (k : Int)) = some (lnD (r.take k)) := by
  show (if (⟨r.toArray⟩ : Str).length ≤ 100000 then _ else _) = _
  rw [len_ln, if_pos h]
  simp only [cutS, len_ln, HT.sIx_none, HT.sIx_nat, lnD]
  congr 3
  simp
theorem cut_from {r : List Nat} (h : r.length ≤ 100000) (k : Nat) : sliceD (lnD r) (some (k : Int)) none = some (lnD (r.drop k)) := by
  show (if (⟨r.toArray⟩ : Str).length ≤ 100000 then _ else _) = _
  rw [len_ln, if_pos h]
  simp only [cutS, len_ln, HT.sIx_none, HT.sIx_nat, lnD]
  congr 3
  simp
  by_cases hk : k ≤ r.length
  · rw [Nat.min_eq_left hk, List.take_of_length_le (by simp)]
  · rw [Nat.min_eq_right (by omega)]
    simp
    omega
theorem add_ln (a b : List Nat) (h : a.length + b.length ≤ 100000) : addD (lnD a) (lnD b) = some (lnD (a ++ b)) := by
  show (if (⟨a.toArray⟩ : Str).length + (⟨b.toArray⟩ : Str).length ≤ 100000 then _ else _) = _
  rw [len_ln, len_ln, if_pos h]
  show some (D.str ⟨a.toArray ++ b.toArray⟩) = _
  simp [lnD]
theorem F_cells_ok {d : D} (hd : RowOk d) {k : Nat} (k1 : 1 ≤ k) (k5 : k ≤ 5) : ∃ t d', F__law_cells d [nD k] = .ret (clsD t) d' ∧ RowOk d' ∧ BOk t ∧ t.length ≤ k ∧ wd t ≤ k := by
  obtain ⟨v1, d1, e1, h1, r1⟩ := F_taken_lit hd 10 (by omega) (by omega) (i := 10) rfl
  obtain ⟨v2, d2, e2, h2, r2⟩ := F_taken_nat r1 (m := k) (by omega) (by omega)
  obtain ⟨v3, d3, e3, h3, r3⟩ := F_taken_nat r2 (m := k) (by omega) (by omega)
  have hv : v1 < pals.length := h1
  have hp := pals_ok pals[v1] (List.getElem_mem hv)
  obtain ⟨t, d4, a6, a7, e4, ht, r4⟩ := tab_draw hp (n := 1 + v3) (by omega) (.fz (nD k)) (.fz (nD (1 + v2))) (rangeD 0 (1 + v2)) 0 [] d3 .no .no (by simp [rangeD]; omega) ⟨rfl, by simp, by simp⟩ r3
  obtain ⟨v5, d5, e5, h5, r5⟩ := F_taken_lit r4 3 (by omega) (by omega) (i := 3) rfl
  have ht' : TOk (1 + v2) (1 + v3) t := by simpa [rangeD] using ht
  have hm := ht'.m
  have xp : ixD (.lst [D.str ".<>x", .str "....<>x", .str "<>", .str "<>x", .str ".x", .str ">>>>>><", .str ".....<>", .str ".", .str "x", .str ">"]) (nD v1) = some (lnD pals[v1]) := by
    rw [pals_str, ix_lst (by simpa using hv)]; simp
  have en : ∀ v : Nat, addD (.int 1) (nD v) = some (nD (1 + v)) := fun v => by simp [nD]
  have er : ∀ ε : Env, rng1K (nD (1 + v2)) ε = .ok (rangeD 0 (1 + v2)) ε := fun ε => rng1K_nat (by omega)
  have e4' := e4
  simp only [List.map_nil] at e4'
  by_cases h0 : v5 = 0
  · obtain ⟨v6, d6, e6, h6, r6⟩ := F_taken_nat r5 (m := 1 + v2) (by omega) (by omega)
    obtain ⟨v7, d7, e7, h7, r7⟩ := F_taken_nat r6 (m := 1 + v3) (by omega) (by omega)
    obtain ⟨v8, d8, e8, h8, r8⟩ := F_taken_lit r7 4 (by omega) (by omega) (i := 4) rfl
    have h6' : v6 < t.length := by omega
    have hr := ht'.n t[v6] (List.getElem_mem h6')
    have hsr := ht'.s t[v6] (List.getElem_mem h6')
    have q5 : eqD (nD v5) (.int 0) = some (.bl true) := by subst h0; rfl
    have xa : atI (t.map lnD) (v6 : Int) = some (lnD t[v6]) := by rw [ML.atI_nat]; simp [h6']
    have xb : ∀ ε : Env, ixP2 ε (nD v6) (some (.lst (t.map lnD))) = .ok (lnD t[v6]) ε := fun ε => by
      show Out.opt (atI (t.map lnD) (v6 : Int)) ε = _
      rw [xa]; rfl
    have c1 := cut_to (r := t[v6]) (by omega) v7
    have c2 := cut_from (r := t[v6]) (by omega) (v7 + 1)
    have pk : ∀ (v : Nat) (ε : Env), partK (nD v) ε = .ok (some (v : Int)) ε := fun _ _ => rfl
    have en1 : addD (nD v7) (.int 1) = some (nD (v7 + 1)) := by simp [nD]
    have x8 : ixD (.str ".<>x") (nD v8) = some (lnD [[46, 60, 62, 120][v8]]) := by
      rw [str_signs]
      exact ix_ln (r := [46, 60, 62, 120]) (by decide) (by simpa using h8)
    have ad1 := add_ln (t[v6].take v7) [[46, 60, 62, 120][v8]] (by simp; omega)
    have ad2 := add_ln (t[v6].take v7 ++ [[46, 60, 62, 120][v8]]) (t[v6].drop (v7 + 1)) (by simp; omega)
    have ixn : ixN t.length (v6 : Int) = some v6 := by
      unfold ixN; rw [if_pos (by omega), if_pos (by omega)]; simp
    have st2 : ∀ (x : D) (ε : Env), setI2 5 x ε (nD v6) (some (t.map lnD)) = .nx (ε.set 5 (.ow (.lst ((t.map lnD).set v6 x)))) := fun x ε => by
      show setI3 5 x (t.map lnD) ε (ixN (t.map lnD).length (v6 : Int)) = _
      rw [List.length_map, ixn]; rfl
    have ht8 : TOk (1 + v2) (1 + v3) (t.set v6 (t[v6].take v7 ++ [[46, 60, 62, 120][v8]] ++ t[v6].drop (v7 + 1))) := by
      refine ⟨by simp [hm], ?_, ?_⟩
      · intro r hr'
        rcases List.mem_or_eq_of_mem_set hr' with h | h
        · exact ht'.n r h
        · subst h; simp; omega
      · intro r hr'
        rcases List.mem_or_eq_of_mem_set hr' with h | h
        · exact ht'.s r h
        · subst h
          intro c hc
          simp only [List.mem_append, List.mem_singleton] at hc
          rcases hc with (hc | hc) | hc
          · exact hsr c (List.mem_of_mem_take hc)
          · subst hc
            have : v8 = 0 ∨ v8 = 1 ∨ v8 = 2 ∨ v8 = 3 := by omega
            unfold isSg
            rcases this with rfl | rfl | rfl | rfl <;> simp
          · exact hsr c (List.mem_of_mem_drop hc)
    obtain ⟨bok, hw⟩ := ht8.bok (by omega) (by omega) (by omega) (by omega)
    refine ⟨_, d8, ?_, r8, bok, by rw [ht8.m]; omega, by rw [hw]; omega⟩
    have fin : D.tup ((t.map lnD).set v6 (lnD (t[v6].take v7 ++ [[46, 60, 62, 120][v8]] ++ t[v6].drop (v7 + 1)))) = clsD (t.set v6 (t[v6].take v7 ++ [[46, 60, 62, 120][v8]] ++ t[v6].drop (v7 + 1))) := by
      simp only [clsD, List.map_set]
    rw [← fin]
    simp -implicitDefEqProofs only [F__law_cells, runM, B__law_cells, envM, List.map_cons, List.map_nil, List.length_cons, List.length_nil, List.cons_append, List.nil_append, List.replicate, seqF_ap, asgF_ap, op2F_ap, frzF_ap, lstM_ap, consF_ap, cF_ap, bnd_ok, consK_ap, nilF_ap, consK2_ap, lstK_ap, Nat.reduceAdd, Nat.reduceLeDiff, if_true, frzK_ap, slget_ow, slget_fz, opt_some, op2K_ap, op2K2_ap, callMF_ap, List.getElem?_cons_succ, List.getElem?_cons_zero, oAt_ow, callM0_some, callMK_ap, callMK2_some, callMR_ret, e1, List.set_cons_succ, List.set_cons_zero, xp, toS_ok, asgK_ap, gnF_ap, optS_some, thn_nx,
      parF_ap, parK_ap, parK2_ap, fzM_ap, fzK_ap, varF_ap, vOut_fz, vOut_ow, e2, e3, en, setM_ap, setK_ap, Nat.zero_le, forS_ap, rng1F_ap, er, forK_ap, e4', ifS_ap, testF_ap, testK_ap, asB_bl, ifSK_ap, e5, q5, e6, e7, setIF_ap, slF_ap, ixPF_ap, ixP0_some, ixPK_ap, lkAt_ow, lkAt_fz, xb, slK_ap, slK2_ap, slK3_ap, noPF_ap, partF_ap, pk, c1, c2, en1, e8, x8, ad1, ad2, setIK_ap, setI1_some, setIK2_ap, oL_ow, st2, retF_ap, cbF_ap, cbK_ap, tupleD_lst, retK_ap, finM_rt]
  · obtain ⟨bok, hw⟩ := ht'.bok (by omega) (by omega) (by omega) (by omega)
    refine ⟨t, d5, ?_, r5, bok, by rw [hm]; omega, by rw [hw]; omega⟩
    have q5 : eqD (nD v5) (.int 0) = some (.bl false) := by
      simp only [nD, eqD_int]
      have : ((v5 : Int) == 0) = false := by simp; omega
      rw [this]
    simp -implicitDefEqProofs only [F__law_cells, runM, B__law_cells, envM, List.map_cons, List.map_nil, List.length_cons, List.length_nil, List.cons_append, List.nil_append, List.replicate, seqF_ap, asgF_ap, op2F_ap, frzF_ap, lstM_ap, consF_ap, cF_ap, bnd_ok, consK_ap, nilF_ap, consK2_ap, lstK_ap, Nat.reduceAdd, Nat.reduceLeDiff, if_true, frzK_ap, slget_ow, slget_fz, opt_some, op2K_ap, op2K2_ap, callMF_ap, List.getElem?_cons_succ, List.getElem?_cons_zero, oAt_ow, callM0_some, callMK_ap, callMK2_some, callMR_ret, e1, List.set_cons_succ, List.set_cons_zero, xp, toS_ok, asgK_ap, gnF_ap, optS_some, thn_nx,
      parF_ap, parK_ap, parK2_ap, fzM_ap, fzK_ap, varF_ap, vOut_fz, vOut_ow, e2, e3, en, setM_ap, setK_ap, Nat.zero_le, forS_ap, rng1F_ap, er, forK_ap, e4', ifS_ap, testF_ap, testK_ap, asB_bl, ifSK_ap, e5, q5, Bool.false_eq_true, if_false, nxF_ap, retF_ap, cbF_ap, cbK_ap, tupleD_lst, retK_ap, finM_rt, clsD]
theorem eqB_sg (a b : Nat) : eqB (sgD a) (sgD b) = decide (a = b) := by
  show PySem.PyData.eqv (.str ⟨#[a]⟩) (.str ⟨#[b]⟩) = _
  rw [PySem.PyData.eqv]
  by_cases h : a = b
  · simp [h]
  · simp [h]
theorem any_sg (l : List Nat) (a : Nat) : ((l.map sgD).any fun y => eqB y (sgD a)) = decide (a ∈ l) := by
  induction l with
  | nil => simp
  | cons x l ih =>
    rw [List.map_cons, List.any_cons, ih, eqB_sg]
    by_cases h : x = a
    · subst h; simp
    · have : ¬ a = x := fun e => h e.symm
      simp [h, this]
theorem okPy_sg {c : Nat} (h : c < 1114112) : okPy (sgD c) = true := by
  simp [okPy, sgD, toPy, PySem.SeqAt.shaped, PySem.PyData.canLay0, PySem.PyData.depth, PySem.PyData.strOk, h]
theorem okPy_sgs {l : List Nat} (h : ∀ c ∈ l, c < 1114112) : okPy (.lst (l.map sgD)) = true := by
  have : ∀ l : List Nat, (∀ c ∈ l, c < 1114112) → PySem.PyData.canLayAll0 (toPyL (l.map sgD)) = true ∧ PySem.PyData.depthAll (toPyL (l.map sgD)) = 0 := by
    intro l
    induction l with
    | nil => intro _; exact ⟨rfl, rfl⟩
    | cons w W ih =>
      intro hw
      have h0 := hw w (by simp)
      have := ih (fun c hc => hw c (by simp [hc]))
      simp [toPyL, toPy, sgD, PySem.PyData.canLayAll0, PySem.PyData.canLay0, PySem.PyData.depthAll, PySem.PyData.depth, PySem.PyData.strOk, h0] at this ⊢
      exact this
  have h1 := (this l h).1
  have h2 := (this l h).2
  simp [okPy, toPy, PySem.SeqAt.shaped, PySem.PyData.canLay0, PySem.PyData.depth, h1, h2]
theorem inD_sgs {c : Nat} {l : List Nat} (hc : c < 1114112) (hl : ∀ x ∈ l, x < 1114112) : inD (sgD c) (.lst (l.map sgD)) = some (.bl (decide (c ∈ l))) := by
  have hf : (okPy (sgD c) && okPy (.lst (l.map sgD))) = true := by rw [Bool.and_eq_true]; exact ⟨okPy_sg hc, okPy_sgs hl⟩
  have e : inB (sgD c) (.lst (l.map sgD)) = some (decide (c ∈ l)) := by
    show (if (okPy (sgD c) && okPy (.lst (l.map sgD))) = true then some ((l.map sgD).any fun y => eqB y (sgD c)) else none) = _
    rw [if_pos hf, any_sg]
  simp [inD, e]
theorem sg_lt {c : Nat} (h : isSg c) : c < 1114112 := by rcases h with rfl | rfl | rfl | rfl <;> omega
theorem in_gx {c : Nat} (h : isSg c) : inD (sgD c) (.lst [.str ">", .str "x"]) = some (.bl (decide (c ∈ [62, 120]))) := by
  have e1 : (">" : Str) = ⟨#[62]⟩ := by decide +kernel
  have e2 : ("x" : Str) = ⟨#[120]⟩ := by decide +kernel
  rw [e1, e2]
  exact inD_sgs (l := [62, 120]) (sg_lt h) (by decide)
theorem in_lx {c : Nat} (h : isSg c) : inD (sgD c) (.lst [.str "<", .str "x"]) = some (.bl (decide (c ∈ [60, 120]))) := by
  have e1 : ("<" : Str) = ⟨#[60]⟩ := by decide +kernel
  have e2 : ("x" : Str) = ⟨#[120]⟩ := by decide +kernel
  rw [e1, e2]
  exact inD_sgs (l := [60, 120]) (sg_lt h) (by decide)
abbrev lsBody : Env → SO := (seqF (ifS (testF (op2F (op2F (op2F (varF 0) (varF 2) ixD) (varF 3) ixD) (frzF (lstM (consF (cF (.str ">")) (consF (cF (.str "x")) nilF)))) inD)) (appF 1 (tupF (consF (varF 2) (consF (op2F (cbF (consF (varF 0) nilF) (lenA 0 F_Board___len__)) (varF 3) addD) nilF)))) nxF)
  (ifS (testF (op2F (op2F (op2F (varF 0) (varF 2) ixD) (varF 3) ixD) (frzF (lstM (consF (cF (.str "<")) (consF (cF (.str "x")) nilF)))) inD)) (appF 1 (tupF (consF (op2F (cbF (consF (varF 0) nilF) (lenA 0 F_Board___len__)) (varF 3) addD) (consF (varF 2) nilF)))) nxF))
theorem ls_cell {t : Tb} (ok : BOk t) {i j : Nat} {r : List Nat} {c : Nat} (hi : t[i]? = some r) (hj : r[j]? = some c) {acc : List D} (hl : acc.length + 2 < 100000) :
    lsBody [.fz (clsD t), .ow (.lst acc), .fz (nD i), .fz (nD j)] = .nx [.fz (clsD t), .ow (.lst (acc ++ (cellSt t.length i j c).map prD)), .fz (nD i), .fz (nD j)] := by
  have hr := List.mem_of_getElem? hi
  have hs : isSg c := ok.sg r hr c (List.mem_of_getElem? hj)
  have w5 := ok.w5
  have hrl := ok.sq r hr
  have hil := (List.getElem?_eq_some_iff.1 hi).1
  obtain ⟨hjl, ej⟩ := List.getElem?_eq_some_iff.1 hj
  have x1 : ixD (clsD t) (nD i) = some (lnD r) := by
    show atI (t.map lnD) (i : Int) = _
    rw [ML.atI_nat]; simp [hi]
  have x2 : ixD (lnD r) (nD j) = some (sgD c) := by rw [ix_ln (by omega) hjl, ej]
  have el : lenA 0 F_Board___len__ [clsD t] = some (nD t.length) := by simp [clsD, nD]
  have ea : addD (nD t.length) (nD j) = some (nD (t.length + j)) := by simp [nD]
  have hlen : acc.length < 100000 := by omega
  have hlen2 : acc.length + 1 < 100000 := by omega
  have e1 := in_gx hs
  have e2 := in_lx hs
  by_cases h1 : c ∈ [62, 120]
  · by_cases h2 : c ∈ [60, 120]
    · simp only [decide_eq_true h1] at e1
      simp only [decide_eq_true h2] at e2
      simp only [List.mem_cons, List.not_mem_nil, or_false] at h1 h2
      simp -implicitDefEqProofs [lsBody, x1, x2, el, e1, e2, ea, hlen, hlen2, cellSt, h1, h2, prD]
    · simp only [decide_eq_true h1] at e1
      simp only [decide_eq_false h2] at e2
      simp only [List.mem_cons, List.not_mem_nil, or_false] at h1 h2
      simp -implicitDefEqProofs [lsBody, x1, x2, el, e1, e2, ea, hlen, hlen2, cellSt, h1, h2, prD]
  · by_cases h2 : c ∈ [60, 120]
    · simp only [decide_eq_false h1] at e1
      simp only [decide_eq_true h2] at e2
      simp only [List.mem_cons, List.not_mem_nil, or_false] at h1 h2
      simp -implicitDefEqProofs [lsBody, x1, x2, el, e1, e2, ea, hlen, hlen2, cellSt, h1, h2, prD]
    · simp only [decide_eq_false h1] at e1
      simp only [decide_eq_false h2] at e2
      simp only [List.mem_cons, List.not_mem_nil, or_false] at h1 h2
      simp -implicitDefEqProofs [lsBody, x1, x2, el, e1, e2, ea, hlen, hlen2, cellSt, h1, h2, prD]
theorem ls_row {t : Tb} (ok : BOk t) {i : Nat} {r : List Nat} (hi : t[i]? = some r) : ∀ (n j : Nat) (acc : List D) (s3 : Sl), j + n = r.length → acc.length + 2 * n + 2 < 100000 →
    ∃ s3', forF (gnF 3) lsBody ((List.range' j n).map nD) [.fz (clsD t), .ow (.lst acc), .fz (nD i), s3] = .nx [.fz (clsD t), .ow (.lst (acc ++ (rowSt t.length i j (r.drop j)).map prD)), .fz (nD i), s3']
  | 0, j, acc, s3, hj, _ => ⟨s3, by simp [forF, List.drop_eq_nil_of_le (show r.length ≤ j by omega), rowSt]⟩
  | n + 1, j, acc, s3, hj, hl => by
    have hjl : j < r.length := by omega
    have hc : r[j]? = some r[j] := by simp [hjl]
    have h1 := ls_cell ok hi hc (acc := acc) (by omega)
    have hcl : (cellSt t.length i j r[j]).length ≤ 2 := by simp only [cellSt]; split <;> split <;> simp
    obtain ⟨s3', ih⟩ := ls_row ok hi n (j + 1) (acc ++ (cellSt t.length i j r[j]).map prD) (.fz (nD j)) (by omega) (by simp; omega)
    refine ⟨s3', ?_⟩
    rw [List.range'_succ, List.map_cons, for_step (by simp) h1, ih, List.drop_eq_getElem_cons hjl]
    simp [rowSt]
theorem ls_tab {t : Tb} (ok : BOk t) : ∀ (n i : Nat) (acc : List D) (s2 s3 : Sl), i + n = t.length → acc.length + 10 * n + 2 < 100000 →
    ∃ s2' s3', forF (gnF 2) (forS (rng1F (cbF (consF (op2F (varF 0) (cF (.int 0)) ixD) nilF) (lenA 0 F_Board___len__))) (gnF 3) lsBody) ((List.range' i n).map nD) [.fz (clsD t), .ow (.lst acc), s2, s3]
      = .nx [.fz (clsD t), .ow (.lst (acc ++ (rawSt t.length i (t.drop i)).map prD)), s2', s3']
  | 0, i, acc, s2, s3, hi, _ => ⟨s2, s3, by simp [forF, List.drop_eq_nil_of_le (show t.length ≤ i by omega), rawSt]⟩
  | n + 1, i, acc, s2, s3, hi, hl => by
    have hil : i < t.length := by omega
    have hr : t[i]? = some t[i] := by simp [hil]
    have hw : t[i].length = wd t := ok.sq _ (List.getElem_mem hil)
    have w5 := ok.w5
    obtain ⟨s3', h1⟩ := ls_row ok hr (wd t) 0 acc s3 (by omega) (by omega)
    have hrl := rowSt_len t.length i t[i] 0
    have e : (t.headD []).length = wd t := rfl
    have hb : forS (rng1F (cbF (consF (op2F (varF 0) (cF (.int 0)) ixD) nilF) (lenA 0 F_Board___len__))) (gnF 3) lsBody [.fz (clsD t), .ow (.lst acc), .fz (nD i), s3] = .nx [.fz (clsD t), .ow (.lst (acc ++ (rowSt t.length i 0 t[i]).map prD)), .fz (nD i), s3'] := by
      have er : rng1F (cbF (consF (op2F (varF 0) (cF (.int 0)) ixD) nilF) (lenA 0 F_Board___len__)) [.fz (clsD t), .ow (.lst acc), .fz (nD i), s3] = .ok ((List.range' 0 (wd t)).map nD) [.fz (clsD t), .ow (.lst acc), .fz (nD i), s3] := by
        rw [← rangeD0]
        simp -implicitDefEqProofs [ix0 ok, len_lnA (r := t.headD []) (by omega), -List.headD_eq_head?_getD, e, rng1K_nat (n := wd t) (by omega)]
      rw [forS_ap, er, toS_ok, forK_ap, h1]; simp
    obtain ⟨a2, a3, ih⟩ := ls_tab ok n (i + 1) (acc ++ (rowSt t.length i 0 t[i]).map prD) (.fz (nD i)) s3' (by omega) (by simp; omega)
    refine ⟨a2, a3, ?_⟩
    rw [List.range'_succ, List.map_cons, for_step (by simp) hb, ih, List.drop_eq_getElem_cons hil]
    simp [rawSt]
theorem F_lsteps_eq {t : Tb} (ok : BOk t) : F__law_steps [clsD t] = .ret (.lst ((stL t).map prD)) := by
  have h5 := ok.h5
  obtain ⟨a2, a3, h⟩ := ls_tab ok t.length 0 [] .no .no (by omega) (by simp; omega)
  have el : lenA 0 F_Board___len__ [clsD t] = some (.int t.length) := by simp [clsD]
  rw [← rangeD0] at h
  simp only [List.drop_zero, List.nil_append] at h
  have er : ∀ ε : Env, rng1K (.int t.length) ε = .ok (rangeD 0 t.length) ε := fun ε => rng1K_nat (by omega)
  have hs : sortAD [.lst ((rawSt t.length 0 t).map prD)] = some (.lst ((stL t).map prD)) := by
    simp [sortAD, oneD, sort_pairs, ← stL_map]
  simp -implicitDefEqProofs only [F__law_steps, runF, B__law_steps, envOf, List.map_cons, List.map_nil, List.length_cons, List.length_nil, List.cons_append, List.nil_append, List.replicate, Nat.reduceSub, Nat.reduceAdd, seqF_ap, setM_ap, lstM_ap, nilF_ap, bnd_ok, lstK_ap, Nat.zero_le, if_true, toS_ok, setK_ap, List.set_cons_succ, List.set_cons_zero, thn_nx]
  rw [forS_ap]
  simp -implicitDefEqProofs only [rng1F_ap, cbF_ap, consF_ap, varF_ap, List.getElem?_cons_zero, vOut_fz, bnd_ok, consK_ap, nilF_ap, consK2_ap, cbK_ap, el, opt_some, er, toS_ok, forK_ap]
  rw [h]
  simp -implicitDefEqProofs [hs]
theorem nice_n : Nice nD 0 := nice_int.comp (fun n : Nat => (n : Int)) (fun a b h => by omega)
theorem nice_lot : Nice lotD 1 := nice_n.tup
def lotsD (L : List (List Nat)) : D := .lst (L.map lotD)
theorem nice_lots : Nice lotsD 2 := nice_lot.lst
def szD (L : List Nat) : D := .tup [nD L.length, lotD L]
theorem nice_sz : Nice szD 2 := ((nice_n.mono (by omega)).pair nice_lot).comp (fun L : List Nat => (L.length, L)) (fun a b h => by simpa using (Prod.mk.inj h).2)
def lotLt (a b : List Nat) : Bool := decide (a.map iN < b.map iN)
theorem toPy_lot (a : List Nat) : toPy (lotD a) = .tuple ((a.map iN).map .int) := by
  have : toPyL (a.map nD) = (a.map iN).map PySem.PyData.int := by
    induction a with
    | nil => rfl
    | cons x a ih => simp [toPyL, ih, toPy, nD, iN]
  simp [lotD, toPy, this]
theorem ord_lot : NOrd lotD lotLt where
  al := fun a b => by rw [toPy_lot, toPy_lot, PySem.W.alike]; exact PySem.W.alike_ints _ _
  lt := fun a b => by rw [toPy_lot, toPy_lot, PySem.W.dataLt_tuple]; exact PySem.W.dataLt_ints _ _
theorem ord_n : NOrd nD (fun a b => decide (a < b)) where
  al := fun a b => rfl
  lt := fun a b => by
    show PySem.W.dataLt (.int a) (.int b) = _
    rw [PySem.W.dataLt_int]; simp
def szLt (a b : List Nat) : Bool := decide (a.length < b.length) || (decide (a.length = b.length) && lotLt a b)
theorem ord_sz : NOrd szD szLt where
  al := fun a b => by
    show PySem.W.alike (.tuple [toPy (nD a.length), toPy (lotD a)]) (.tuple [toPy (nD b.length), toPy (lotD b)]) = true
    simp only [PySem.W.alike, PySem.W.alikeAll, ord_lot.al, ord_n.al, Bool.and_self]
  lt := fun a b => by
    show PySem.W.dataLt (.tuple [toPy (nD a.length), toPy (lotD a)]) (.tuple [toPy (nD b.length), toPy (lotD b)]) = _
    rw [PySem.W.dataLt_pair (ord_n.al _ _) (ord_lot.al _ _), ord_lot.lt, ord_n.lt]
    by_cases h : a.length = b.length
    · rw [if_pos ((nice_n.eq _ _).2 h)]
      by_cases h2 : a = b
      · subst h2
        rw [if_pos ((nice_lot.eq _ _).2 rfl)]
        simp [szLt, lotLt]
      · rw [if_neg (fun x => h2 ((nice_lot.eq _ _).1 x))]
        simp [szLt, h]
    · rw [if_neg (fun x => h ((nice_n.eq _ _).1 x))]
      simp [szLt, h]
theorem lin_sz : Lin szLt := ord_sz.lin nice_sz
theorem lin_lot : Lin lotLt := ord_lot.lin nice_lot
def allL : Nat → List (List Nat)
  | 0 => [[]]
  | n + 1 => allL n ++ (allL n).map (· ++ [n])
theorem allL_len : ∀ n, (allL n).length = 2 ^ n
  | 0 => rfl
  | n + 1 => by simp [allL, allL_len n, Nat.pow_succ]; omega
theorem allL_le {n : Nat} (h : n ≤ 10) : (allL n).length ≤ 1024 := by
  rw [allL_len]
  exact Nat.pow_le_pow_right (by omega) h
theorem mem_allL : ∀ {n : Nat} {L : List Nat}, L ∈ allL n ↔ L.Pairwise (· < ·) ∧ ∀ x ∈ L, x < n
  | 0, L => by
    simp only [allL, List.mem_singleton, Nat.not_lt_zero, imp_false]
    constructor
    · rintro rfl; simp
    · rintro ⟨_, h⟩
      exact List.eq_nil_iff_forall_not_mem.2 h
  | n + 1, L => by
    simp only [allL, List.mem_append, List.mem_map, mem_allL (n := n)]
    constructor
    · rintro (⟨h1, h2⟩ | ⟨M, ⟨h1, h2⟩, rfl⟩)
      · exact ⟨h1, fun x hx => by have := h2 x hx; omega⟩
      · refine ⟨List.pairwise_append.2 ⟨h1, by simp, fun a ha b hb => by simp at hb; subst hb; exact h2 a ha⟩, fun x hx => ?_⟩
        rcases List.mem_append.1 hx with h | h
        · have := h2 x h; omega
        · simp at h; omega
    · rintro ⟨h1, h2⟩
      by_cases hn : n ∈ L
      · right
        obtain ⟨A, B, rfl⟩ := List.append_of_mem hn
        obtain ⟨p1, p2, p3⟩ := List.pairwise_append.1 h1
        have hB : B = [] := by
          apply List.eq_nil_iff_forall_not_mem.2
          intro x hx
          have := (List.pairwise_cons.1 p2).1 x hx
          have := h2 x (by simp [hx])
          omega
        subst hB
        exact ⟨A, ⟨p1, fun x hx => p3 x hx n (by simp)⟩, rfl⟩
      · left
        refine ⟨h1, fun x hx => ?_⟩
        have := h2 x hx
        rcases Nat.lt_or_ge x n with h | h
        · exact h
        · have : x = n := by omega
          subst this; exact absurd hx hn
theorem LOk_iff {t : Tb} {L : List Nat} : L ∈ allL (thr t) ↔ LOk t L := by
  rw [mem_allL]; exact ⟨fun h => ⟨h.2, h.1⟩, fun h => ⟨h.so, h.lt⟩⟩
theorem add_lsts {xs ys : List D} (h : xs.length + ys.length ≤ 100000) : addD (.lst xs) (.lst ys) = some (.lst (xs ++ ys)) := by
  show (if xs.length + ys.length ≤ 100000 then some (D.lst (xs ++ ys)) else none) = _
  rw [if_pos h]
theorem add_tups {xs ys : List D} (h : xs.length + ys.length ≤ 100000) : addD (.tup xs) (.tup ys) = some (.tup (xs ++ ys)) := by
  show (if xs.length + ys.length ≤ 100000 then some (D.tup (xs ++ ys)) else none) = _
  rw [if_pos h]
theorem allL_mlen {n : Nat} {L : List Nat} (h : L ∈ allL n) : L.length ≤ n := by
  obtain ⟨h1, h2⟩ := mem_allL.1 h
  have nd : L.Nodup := h1.imp (fun h => by omega)
  have := nd.length_le_of_subset (l₂ := List.range n) (fun k hk => List.mem_range.2 (h2 k hk))
  simpa using this
theorem rng_nat (m : Nat) (h : m ≤ 100000) (ε : Env) : rng1K (.int m) ε = .ok ((List.range' 0 m).map nD) ε := by
  have := rng1K_nat (n := m) (ε := ε) (by omega)
  rw [rangeD0] at this; exact this
theorem len_lots {Ls : List (List Nat)} : lenA 0 F_Board___len__ [lotsD Ls] = some (.int Ls.length) := by simp [lotsD]
def clsB (ps : List (Nat × Nat)) (L : List Nat) : Bool := ps.all fun p => decide (p.1 ∈ L) || !decide (p.2 ∈ L)
noncomputable def clL (t : Tb) : List (List Nat) := ((allL (thr t)).filter (clsB (stL t))).mergeSort (leOf szLt)
theorem clsB_iff {t : Tb} {L : List Nat} : clsB (stL t) L = true ↔ Closed t L := by
  simp only [clsB, List.all_eq_true, Bool.or_eq_true, decide_eq_true_eq, Bool.not_eq_true', decide_eq_false_iff_not]
  constructor
  · intro h a b s hb
    rcases h (a, b) (mem_stL.2 s) with h | h
    · exact h
    · exact absurd hb h
  · intro h p hp
    by_cases h2 : p.2 ∈ L
    · exact .inl (h p.1 p.2 (mem_stL.1 hp) h2)
    · exact .inr h2
theorem mem_clL {t : Tb} {L : List Nat} : L ∈ clL t ↔ LOk t L ∧ Closed t L := by
  unfold clL
  rw [List.mem_mergeSort, List.mem_filter, LOk_iff, clsB_iff]
theorem clL_sorted (t : Tb) : (clL t).Pairwise (fun a b => leOf szLt a b = true) := lin_sz.sorted _
theorem clL_len {t : Tb} (ok : BOk t) : (clL t).length ≤ 1024 := by
  unfold clL
  rw [List.length_mergeSort]
  exact Nat.le_trans (List.length_filter_le _ _) (allL_le ok.thr10)
theorem F__law_all_lots_eq {n : Nat} (hn : n ≤ 10) : F__law_all_lots [nD n] = .ret (lotsD ((allL n).mergeSort (leOf szLt))) := by
  have h0 : ∀ ε : Env, rng1K (nD n) ε = .ok (rangeD 0 n) ε := fun ε => rng1K_nat (by omega)
  obtain ⟨ε', e, s2, rfl⟩ := forL (gf := gnF 2) (F := asgF (op2F (varF 1) (frzF (lcM [3] (itF (varF 1)) (gnF 3) tYesF (op2F (varF 3) (tupF (consF (varF 2) nilF)) addD))) addD) (gnF 1)) nD (List.range' 0 n)
    (fun i ε => ∃ s2, ε = [.fz (nD n), .fz (lotsD (allL i)), s2, .no, .no]) [.fz (nD n), .fz (lotsD (allL 0)), .no, .no, .no] ⟨_, rfl⟩ (by
      rintro i hi ε ⟨s2, rfl⟩
      simp only [List.length_range'] at hi
      have hle : (allL i).length ≤ 1024 := allL_le (by omega)
      refine ⟨_, [.fz (nD n), .fz (lotsD (allL (i + 1))), .fz (nD i), .no, .no], by simp; rfl, ?_, _, rfl⟩
      have eit : itemsD (lotsD (allL i)) = some ((allL i).map lotD) := rfl
      have el : lcL [3] (gnF 3) tYesF (op2F (varF 3) (tupF (consF (varF 2) nilF)) addD) ((allL i).map lotD) [] [.fz (nD n), .fz (lotsD (allL i)), .fz (nD i), .no, .no] = .ok ((allL i).map fun L => lotD (L ++ [i])) [.fz (nD n), .fz (lotsD (allL i)), .fz (nD i), .no, .no] := by
        refine lc_mapg _ _ _ (by omega) fun L hL => ?_
        have h2 := allL_mlen hL
        have e1 : addD (lotD L) (.tup [nD i]) = some (lotD (L ++ [i])) := by
          rw [lotD, add_tups (by simp; omega)]
          simp [lotD]
        simp -implicitDefEqProofs [lc1, e1]
      have ea : addD (lotsD (allL i)) (.lst ((allL i).map fun L => lotD (L ++ [i]))) = some (lotsD (allL (i + 1))) := by
        rw [lotsD, add_lsts (by simp; omega)]
        simp [lotsD, allL]
      simp -implicitDefEqProofs [eit, el, ea])
  simp only [List.length_range'] at e
  have hle : (allL n).length ≤ 1024 := allL_le (by omega)
  have e0 : D.lst [.tup []] = lotsD (allL 0) := rfl
  have eit : itemsD (lotsD (allL n)) = some ((allL n).map lotD) := rfl
  have el : lcL [3] (gnF 3) tYesF (tupF (consF (cbF (consF (varF 3) nilF) (lenA 0 F_Board___len__)) (consF (varF 3) nilF))) ((allL n).map lotD) [] [.fz (nD n), .fz (lotsD (allL n)), s2, .no, .no] = .ok ((allL n).map szD) [.fz (nD n), .fz (lotsD (allL n)), s2, .no, .no] := by
    refine lc_mapg _ _ _ (by omega) fun L hL => ?_
    have e : lotD L = .tup (L.map nD) := rfl
    simp -implicitDefEqProofs [lc1, e]
    rfl
  have es := ord_sz.sorted nice_sz (by omega) (xs := allL n) (.inl fun _ _ => rfl)
  have el2 : lcL [4, 3] (gtupF 2 (gconsF (gnF 4) (gconsF (gnF 3) gnilF))) tYesF (varF 3) (((allL n).mergeSort (leOf szLt)).map szD) [] [.fz (nD n), .fz (lotsD (allL n)), s2, .no, .no] = .ok (((allL n).mergeSort (leOf szLt)).map lotD) [.fz (nD n), .fz (lotsD (allL n)), s2, .no, .no] := by
    refine lc_mapg _ _ _ (by simp; omega) fun L hL => ?_
    simp -implicitDefEqProofs [lc1, szD]
  simp -implicitDefEqProofs [F__law_all_lots, runF, B__law_all_lots, envOf, e0, h0, rangeD0, e, eit, el, es, el2]
  rfl
theorem F__law_is_closed_eq {ps : List (Nat × Nat)} (hp : ps.length ≤ 1000) (L : List Nat) : F__law_is_closed [.lst (ps.map prD), lotD L] = .ret (.bl (clsB ps L)) := by
  have ea : lcL [2, 3] (gtupF 2 (gconsF (gnF 2) (gconsF (gnF 3) gnilF))) (andT (testF (op2F (varF 3) (varF 1) inD)) (testF (op2F (varF 2) (varF 1) notInD))) (varF 2) (ps.map prD) [] [.fz (.lst (ps.map prD)), .fz (lotD L), .no, .no]
      = .ok (((ps.filter fun p => decide (p.2 ∈ L) && !decide (p.1 ∈ L)).map (·.1)).map nD) [.fz (.lst (ps.map prD)), .fz (lotD L), .no, .no] := by
    rw [lc_fmg prD (fun p => if (decide (p.2 ∈ L) && !decide (p.1 ∈ L)) = true then some (nD p.1) else none) _ (by omega) (fun p hp => ?_)]
    · congr 1
      induction ps with
      | nil => rfl
      | cons p ps ih => by_cases h : (decide (p.2 ∈ L) && !decide (p.1 ∈ L)) = true <;> simp only [List.filterMap_cons, List.filter_cons, h, if_true, if_false, List.map_cons, ih (by simp at hp; omega)] <;> rfl
    · by_cases h2 : p.2 ∈ L
      · by_cases h1 : p.1 ∈ L
        · simp -implicitDefEqProofs [lc1, prD, inD_lot, notInD_lot, h1, h2]
        · simp -implicitDefEqProofs [lc1, prD, inD_lot, notInD_lot, h1, h2]
      · simp -implicitDefEqProofs [lc1, prD, inD_lot, h2]
  have e2 := nice_n.eq_nil (by omega) ((ps.filter fun p => decide (p.2 ∈ L) && !decide (p.1 ∈ L)).map (·.1))
  have e3 : ((ps.filter fun p => decide (p.2 ∈ L) && !decide (p.1 ∈ L)).map (·.1)).isEmpty = clsB ps L := by
    unfold clsB
    clear ea e2
    induction ps with
    | nil => rfl
    | cons p ps ih =>
      have ih := ih (by simp at hp; omega)
      rw [List.all_cons, ← ih, List.filter_cons]
      by_cases h1 : p.1 ∈ L <;> by_cases h2 : p.2 ∈ L <;> simp [h1, h2]
  rw [e3] at e2
  simp -implicitDefEqProofs only [F__law_is_closed, runF, B__law_is_closed, envOf, List.map_cons, List.map_nil, List.length_cons, List.length_nil, List.cons_append, List.nil_append, List.replicate, retF_ap, op2F_ap, op2K_ap, op2K2_ap, lstM_ap, lstK_ap, Nat.zero_le, if_true, consF_ap, frzF_ap, lcM_ap, itF_ap, varF_ap, List.getElem?_cons_succ, List.getElem?_cons_zero, vOut_fz, bnd_ok, itK_ap, itemsD_lst, opt_some, lcK_ap,
    wipeE_cons, wipeE_nil, List.set_cons_succ, List.set_cons_zero, ea, mkL_ap, frzK_ap, slget_ow, consK_ap, nilF_ap, e2, toS_ok, retK_ap, fin_rt]
theorem F__law_lots_eq {t : Tb} (ok : BOk t) : F__law_lots [clsD t] = .ret (lotsD (clL t)) := by
  have hs := stL_len ok
  have ht := ok.thr10
  have hle := allL_le ht
  have h1 : F__law_all_lots [.int (thr t)] = .ret (lotsD ((allL (thr t)).mergeSort (leOf szLt))) := F__law_all_lots_eq ht
  have eit : itemsD (lotsD ((allL (thr t)).mergeSort (leOf szLt))) = some (((allL (thr t)).mergeSort (leOf szLt)).map lotD) := rfl
  have el : lcL [2] (gnF 2) (testF (callF 2 (consF (varF 1) (consF (varF 2) nilF)) F__law_is_closed)) (varF 2) (((allL (thr t)).mergeSort (leOf szLt)).map lotD) [] [.fz (clsD t), .fz (.lst ((stL t).map prD)), .no] = .ok ((clL t).map lotD) [.fz (clsD t), .fz (.lst ((stL t).map prD)), .no] := by
    unfold clL
    rw [← lin_sz.sort_filter]
    refine lc_flt lotD (clsB (stL t)) lotD _ (by simp; omega) (fun L hL => ?_)
    · have hc := F__law_is_closed_eq (ps := stL t) (by omega) L
      by_cases h : clsB (stL t) L = true
      · simp -implicitDefEqProofs [lc1, hc, h]
      · simp only [Bool.not_eq_true] at h
        simp -implicitDefEqProofs [lc1, hc, h]
  simp -implicitDefEqProofs [F__law_lots, runF, B__law_lots, envOf, F_lsteps_eq ok, F_many_eq ok, h1, eit, el]
  rfl
theorem ix_tup' {xs : List D} {k : Nat} (h : k < xs.length) : ixD (.tup xs) (nD k) = some xs[k] := by
  show atI xs (k : Int) = _
  rw [ML.atI_nat]; simp [h]
theorem F_need_thread_ok {t : Tb} (ok : BOk t) {a : Nat} (ha : a < thr t) : F_need_thread [bdD t, nD a] = .ret .non := by
  have e := F_is_thread_eq ok (nD_scr a)
  rw [isFrom_nD ok ha] at e
  simp -implicitDefEqProofs [F_need_thread, runF, B_need_thread, envOf, e]
theorem sub_len {A B : List Nat} (ha : A.Pairwise (· < ·)) (h : ∀ x ∈ A, x ∈ B) : A.length ≤ B.length :=
  List.Nodup.length_le_of_subset (ha.imp (fun h => by omega)) h
theorem sub_eq {A B : List Nat} (ha : A.Pairwise (· < ·)) (hb : B.Pairwise (· < ·)) (h : ∀ x ∈ A, x ∈ B) (hl : B.length ≤ A.length) : A = B := by
  have na : A.Nodup := ha.imp (fun h => by omega)
  have nb : B.Nodup := hb.imp (fun h => by omega)
  have p : A.Perm B := (List.perm_ext_iff_of_nodup na nb).2 fun x => ⟨h x, fun hx => by
    apply Classical.byContradiction
    intro hn
    have := List.Nodup.length_le_of_subset (l₁ := x :: A) (l₂ := B) (List.nodup_cons.2 ⟨hn, na⟩) (fun y hy => by
      rcases List.mem_cons.1 hy with rfl | hy
      · exact hx
      · exact h y hy)
    simp at this; omega⟩
  exact List.Perm.eq_of_pairwise (le := (· < ·)) (fun a b _ _ h1 h2 => by omega) ha hb p
theorem sub_le {A B : List Nat} (ha : A.Pairwise (· < ·)) (hb : B.Pairwise (· < ·)) (h : ∀ x ∈ A, x ∈ B) : leOf szLt A B = true := by
  have hl := sub_len ha h
  by_cases e : A.length = B.length
  · have := sub_eq ha hb h (by omega)
    subst this
    have := lin_sz.tot A A
    simpa using this
  · simp only [leOf, szLt, Bool.not_eq_true', Bool.or_eq_false_iff, decide_eq_false_iff_not, Bool.and_eq_false_imp, decide_eq_true_eq]
    exact ⟨by omega, fun q => absurd q.symm e⟩
theorem head_min {α : Type} {lt : α → α → Bool} (L : Lin lt) {xs : List α} (hs : xs.Pairwise (fun a b => leOf lt a b = true)) {m : α} (hm : m ∈ xs) (h : ∀ x ∈ xs, leOf lt m x = true) : xs.head? = some m := by
  cases xs with
  | nil => cases hm
  | cons x xs =>
    have h1 := h x (by simp)
    rcases List.mem_cons.1 hm with rfl | h2
    · rfl
    · have h3 := (List.pairwise_cons.1 hs).1 m h2
      rw [L.an m x h1 h3]; rfl
theorem Closed.rch {t : Tb} {L : List Nat} (h : Closed t L) {a b : Nat} (r : Rch t a b) : b ∈ L → a ∈ L := by
  induction r with
  | refl => exact id
  | step _ s ih => exact fun hb => ih (h _ _ s hb)
theorem mem_rg {n x : Nat} : x ∈ List.range' 0 n ↔ x < n := by
  rw [List.mem_range']
  exact ⟨fun ⟨i, h, e⟩ => by omega, fun h => ⟨x, h, by omega⟩⟩
theorem intsD_nD : ∀ xs : List Nat, intsD (xs.map nD) = some (xs.map iN)
  | [] => rfl
  | x :: xs => by simp [intsD, intsD_nD xs, nD, iN]
theorem F_Board_cells_eq (t : Tb) : F_Board_cells [bdD t] = .ret (clsD t) := by
  simp -implicitDefEqProofs [F_Board_cells, runF, B_Board_cells, envOf, bd_tab]
theorem prop_cells (t : Tb) (ε : Env) : propK 0 F_Board_cells (bdD t) ε = .ok (clsD t) ε := by
  have := F_Board_cells_eq t
  show propK 0 F_Board_cells (.obj 0 ["table"] [clsD t]) ε = _
  rw [propK_ap]
  show callO (F_Board_cells [bdD t]) ε = _
  rw [this]; rfl
def addU {α : Type} [DecidableEq α] (K : List α) (x : α) : List α := if x ∈ K then K else K ++ [x]
theorem addU_mem {α : Type} [DecidableEq α] {K : List α} {x y : α} : y ∈ addU K x ↔ y ∈ K ∨ y = x := by
  unfold addU
  split
  · exact ⟨.inl, fun h => by rcases h with h | rfl <;> assumption⟩
  · simp
theorem addU_nodup {α : Type} [DecidableEq α] {K : List α} {x : α} (h : K.Nodup) : (addU K x).Nodup := by
  unfold addU
  split
  · exact h
  · rename_i hx
    exact List.nodup_append.2 ⟨h, by simp, by rintro a ha b hb rfl; simp at hb; subst hb; exact hx ha⟩
def dedU {α : Type} [DecidableEq α] : List α → List α → List α
  | K, [] => K
  | K, x :: xs => dedU (addU K x) xs
theorem dedU_mem {α : Type} [DecidableEq α] : ∀ {xs K : List α} {y : α}, y ∈ dedU K xs ↔ y ∈ K ∨ y ∈ xs
  | [], K, y => by simp [dedU]
  | x :: xs, K, y => by rw [dedU, dedU_mem, addU_mem]; simp [or_assoc]
theorem dedU_nodup {α : Type} [DecidableEq α] : ∀ {xs K : List α}, K.Nodup → (dedU K xs).Nodup
  | [], K, h => h
  | x :: xs, K, h => by rw [dedU]; exact dedU_nodup (addU_nodup h)
noncomputable def prt (t : Tb) (s : Nat) : List Nat := (rchL t s).filter fun o => decide (s ∈ rchL t o)
noncomputable def ptL (t : Tb) : List (List Nat) := (dedU [] ((List.range' 0 (thr t)).map (prt t))).mergeSort (leOf lotLt)
def unS (A B : List Nat) : List Nat := (A ++ B).mergeSort fun a b => decide (a ≤ b)
theorem notIn_lots (L : List Nat) (Ls : List (List Nat)) : notInD (lotD L) (lotsD Ls) = some (.bl (!decide (L ∈ Ls))) := by
  rw [lotsD, nice_lot.notInD (by omega)]
  congr 3
  rw [Bool.eq_iff_iff]; simp
/-- what is found so far -/
structure Lif (t : Tb) (K Y : List (List Nat)) : Prop where
  nd : K.Nodup
  cl : ∀ L ∈ K, LOk t L ∧ Closed t L
  sub : ∀ L ∈ Y, L ∈ K
  nil : [] ∈ K
  ext : ∀ L ∈ K, L ∉ Y → ∀ P ∈ ptL t, P.headD 0 ∉ L → clsB (stL t) (unS L P) = true → unS L P ∈ K
  few : Y.length ≤ K.length
theorem Lif.le {t : Tb} (ok : BOk t) {K Y : List (List Nat)} (h : Lif t K Y) : K.length ≤ 1024 := by
  have := h.nd.length_le_of_subset (l₂ := clL t) fun L hL => mem_clL.2 (h.cl L hL)
  have := clL_len ok
  omega
theorem iN_map (L : List Nat) : (L.map iN).map D.int = L.map nD := by rw [List.map_map]; rfl
theorem rows_lots : ∀ Ls : List (List Nat), rowsI (Ls.map lotD) = some (Ls.map fun L => L.map iN)
  | [] => rfl
  | L :: Ls => by
    have e1 := intsD_nD L
    simp only [List.map_cons, lotD, rowsI, e1, Option.bind_some]
    rw [rows_lots Ls]; rfl
theorem iN_inj {a b : List Nat} (h : a.map iN = b.map iN) : a = b := by
  have := List.map_inj_right (f := iN) (fun x y h => by simp only [iN] at h; omega) |>.1 h
  exact this
/-- sorted(set(ls)), ls lots -/
theorem sset_lots {Ls R : List (List Nat)} (h : Ls.length < 64) (hn : R.Nodup) (hs : R.Pairwise (fun a b => leOf lotLt a b = true)) (hm : ∀ L, L ∈ R ↔ L ∈ Ls) : sortSetD (lotsD Ls) = some (lotsD R) := by
  have e := rows_lots Ls
  have hp : ∀ L : List Nat, MH.pyT (L.map iN) = toPy (lotD L) := fun L => by rw [toPy_lot]; rfl
  have e2 : distT (Ls.map fun L => L.map iN) = R.map fun L => L.map iN := by
    refine (distT_of ?_ ?_ fun k => ?_).symm
    · rw [List.Nodup, List.pairwise_map]
      exact hn.imp fun h q => h (iN_inj q)
    · rw [List.pairwise_map]
      refine hs.imp fun {a b} h => ?_
      rw [← ord_lot.le a b, PySem.W.dataLe_eq] at h
      rw [PySem.W.dataLe_eq]
      simpa only [hp] using h
    · simp only [List.mem_map]
      exact ⟨fun ⟨L, a, b⟩ => ⟨L, (hm L).1 a, b⟩, fun ⟨L, a, b⟩ => ⟨L, (hm L).2 a, b⟩⟩
  have e3 : (R.map fun L => L.map iN).map tupI = R.map lotD := by
    rw [List.map_map]
    refine List.map_congr_left fun L _ => ?_
    simp only [Function.comp_apply, tupI, iN_map, lotD]
  simp only [sortSetD, lotsD, e, Option.bind_some, List.length_map, if_pos h, e2, e3]
def ordD (O : List (List Nat)) : D := .tup (O.map lotD)
theorem lt_of_le {α : Type} {lt : α → α → Bool} (L : Lin lt) {a b : α} (h : leOf lt a b = true) (hne : a ≠ b) : lt a b = true := by
  cases e : lt a b with
  | true => rfl
  | false => exact absurd (L.an a b h (by simp [leOf, e])) hne
def cAt (t : Tb) (i j : Nat) : Nat := (t.getD i []).getD j 0
def ledR (t : Tb) (i : Nat) : List (List Nat) := ((List.range' 0 (wd t)).filter fun j => !decide (cAt t i j = 46)).map fun j => [i, j]
def ledL (t : Tb) : List (List Nat) := (List.range' 0 t.length).flatMap (ledR t)
theorem mem_led {t : Tb} {c : List Nat} : c ∈ ledL t ↔ ∃ i j, i < t.length ∧ j < wd t ∧ cAt t i j ≠ 46 ∧ c = [i, j] := by
  simp only [ledL, ledR, List.mem_flatMap, mem_rg, List.mem_map, List.mem_filter, Bool.not_eq_true', decide_eq_false_iff_not]
  constructor
  · rintro ⟨i, hi, j, ⟨hj, hc⟩, rfl⟩
    exact ⟨i, j, hi, hj, hc, rfl⟩
  · rintro ⟨i, j, hi, hj, hc, rfl⟩
    exact ⟨i, hi, j, ⟨hj, hc⟩, rfl⟩
theorem str_dot : ("." : Str) = ⟨#[46]⟩ := by decide +kernel
theorem ne_sg {a b : Nat} (ha : a < 1114112) (hb : b < 1114112) : neD (sgD a) (sgD b) = some (.bl (!decide (a = b))) := by
  simp only [ML.neD, okPy_sg ha, okPy_sg hb, eqB_sg, Bool.and_self, if_true]
theorem ne_dot {a : Nat} (ha : a < 1114112) : neD (sgD a) (.str ".") = some (.bl (!decide (a = 46))) := by
  rw [str_dot]; exact ne_sg ha (by omega)
theorem row_mem {t : Tb} {i : Nat} (hi : i < t.length) : t.getD i [] ∈ t := by
  rw [List.getD_eq_getElem?_getD, List.getElem?_eq_getElem hi]; exact List.getElem_mem hi
theorem row_len {t : Tb} (ok : BOk t) {i : Nat} (hi : i < t.length) : (t.getD i []).length = wd t := ok.sq _ (row_mem hi)
theorem ix_row {t : Tb} {i : Nat} (hi : i < t.length) : ixD (clsD t) (nD i) = some (lnD (t.getD i [])) := by
  show atI (t.map lnD) (i : Int) = _
  rw [ML.atI_nat, List.getElem?_map, List.getElem?_eq_getElem hi, List.getD_eq_getElem?_getD, List.getElem?_eq_getElem hi]; rfl
theorem ix_cell {t : Tb} (ok : BOk t) {i j : Nat} (hi : i < t.length) (hj : j < wd t) : ixD (lnD (t.getD i [])) (nD j) = some (sgD (cAt t i j)) := by
  have hl := row_len ok hi
  have := ok.w5
  rw [ix_ln (by omega) (by omega)]
  congr 1
  unfold cAt
  rw [List.getD_eq_getElem?_getD (l := t.getD i []), List.getElem?_eq_getElem (by omega)]; rfl
theorem cAt_sg {t : Tb} (ok : BOk t) {i j : Nat} (hi : i < t.length) (hj : j < wd t) : isSg (cAt t i j) := by
  have hl := row_len ok hi
  refine ok.sg _ (row_mem hi) _ ?_
  unfold cAt
  rw [List.getD_eq_getElem?_getD (l := t.getD i []), List.getElem?_eq_getElem (by omega)]; exact List.getElem_mem _
theorem cAt_lt {t : Tb} (ok : BOk t) {i j : Nat} (hi : i < t.length) (hj : j < wd t) : cAt t i j < 1114112 := sg_lt (cAt_sg ok hi hj)
theorem ledR_len (t : Tb) (i : Nat) : (ledR t i).length ≤ wd t := by
  unfold ledR
  rw [List.length_map]
  exact Nat.le_trans (List.length_filter_le _ _) (by simp)
theorem led_upto {t : Tb} (ok : BOk t) {i : Nat} (hi : i ≤ t.length) : ((List.range' 0 i).flatMap (ledR t)).length ≤ i * 5 := by
  have := ok.w5
  induction i with
  | zero => simp
  | succ i ih =>
    rw [List.range'_1_concat, List.flatMap_append, List.length_append]
    have h1 := ih (by omega)
    have h2 := ledR_len t i
    simp only [List.flatMap_cons, List.flatMap_nil, List.append_nil, Nat.zero_add]
    omega
theorem led_len {t : Tb} (ok : BOk t) : (ledL t).length ≤ 25 := by
  have h1 := led_upto ok (Nat.le_refl t.length)
  have := ok.h5
  unfold ledL
  omega
theorem add_lots {A B : List (List Nat)} (h : A.length + B.length ≤ 100000) : addD (lotsD A) (lotsD B) = some (lotsD (A ++ B)) := by
  have : (A.map lotD).length + (B.map lotD).length ≤ 100000 := by simp only [List.length_map]; omega
  simp only [addD, lotsD, if_pos this, List.map_append]
theorem F__law_led_eq {t : Tb} (ok : BOk t) : F__law_led [clsD t] = .ret (lotsD (ledL t)) := by
  have h5 := ok.h5
  have w5 := ok.w5
  obtain ⟨ε', e, s2, rfl⟩ := forL (gf := gnF 2) (F := B__law_led_L1) nD (List.range' 0 t.length)
    (fun i ε => ∃ s2, ε = [.fz (clsD t), .fz (lotsD ((List.range' 0 i).flatMap (ledR t))), s2, .no]) [.fz (clsD t), .fz (.lst []), .no, .no] ⟨.no, rfl⟩ (by
      rintro i hi ε ⟨s2, rfl⟩
      have hi' : i < t.length := by simpa using hi
      have ei : (List.range' 0 t.length)[i] = i := by simp
      rw [ei]
      refine ⟨[.fz (clsD t), .fz (lotsD ((List.range' 0 i).flatMap (ledR t))), .fz (nD i), .no], _, rfl, ?_, .fz (nD i), rfl⟩
      have x1 := ix0 ok
      have x2 : lenA 0 F_Board___len__ [lnD (t.headD [])] = some (.int (wd t)) := len_lnA (by have := ok.w5; unfold wd at this; omega)
      have x3 : ∀ ε : Env, rng1K (.int (wd t)) ε = .ok ((List.range' 0 (wd t)).map nD) ε := rng_nat (wd t) (by omega)
      have el : lcL [3] (gnF 3) (testF (op2F (op2F (op2F (varF 0) (varF 2) ixD) (varF 3) ixD) (cF (.str ".")) neD)) (tupF (consF (varF 2) (consF (varF 3) nilF))) ((List.range' 0 (wd t)).map nD) [] [.fz (clsD t), .fz (lotsD ((List.range' 0 i).flatMap (ledR t))), .fz (nD i), .no]
          = .ok ((ledR t i).map lotD) [.fz (clsD t), .fz (lotsD ((List.range' 0 i).flatMap (ledR t))), .fz (nD i), .no] := by
        have q : (ledR t i).map lotD = (((List.range' 0 (wd t)).filter fun j => !decide (cAt t i j = 46)).map fun j => lotD [i, j]) := by
          unfold ledR
          rw [List.map_map]; rfl
        rw [q]
        refine lc_fltY nD _ _ (List.range' 0 (wd t)) (by simp; omega) fun j hj => ⟨[.fz (clsD t), .fz (lotsD ((List.range' 0 i).flatMap (ledR t))), .fz (nD i), .fz (nD j)], rfl, rfl, ?_, fun _ => ?_⟩
        · have hj' : j < wd t := by simpa using hj
          have y1 := ix_row hi'
          have y2 := ix_cell ok hi' hj'
          have y3 := ne_dot (cAt_lt ok hi' hj')
          simp -implicitDefEqProofs only [runF, runM, envOf, envM, List.map_cons, List.map_nil, List.length_cons, List.length_nil, List.cons_append, List.nil_append, List.replicate, List.getElem?_cons_succ, List.getElem?_cons_zero, List.set_cons_succ, List.set_cons_zero, if_true, Bool.false_eq_true, if_false, Nat.reduceAdd, Nat.reduceSub, Nat.zero_add, Nat.zero_le, Bool.not_true, Bool.not_false, Option.some.injEq, Option.bind_some, Nat.reduceLeDiff, bnd_ok, bnd_bad, toS_ok, toS_bad, opt_some, opt_none, vOut_fz, vOut_ow, varF_ap, cF_ap, op2F_ap, op2K_ap, op2K2_ap, op1F_ap, op1K_ap, nilF_ap, consF_ap, consK_ap, consK2_ap, tupF_ap, tupK_ap, lstM_ap, lstK_ap, slget_fz, slget_ow, frzF_ap, frzK_ap, fzM_ap, fzK_ap, cbF_ap, cbK_ap, asB_bl, testF_ap, testK_ap, andT_ap, andTK_ap, orT_ap, orTK_ap, notT_ap, notTK_ap, andV_ap, andVK_ap, orV_ap, orVK_ap, notV_ap, notVK_ap, ifE_ap, ifEK_ap, chainF_ap, chainK_ap, chainK3_ap, chainK2_cmp, thn_nx, thn_rt, thn_bad, seqF_ap, ifS_ap, ifSK_ap, retF_ap, retK_ap, retN_ap, nxF_ap, neverF_ap, dropF_ap, dropK_ap, gnF_ap, gnilF_ap, gconsF_ap, gtupF_ap, optS_some, asgF_ap, asgK_ap, setM_ap, setK_ap, parF_ap, parK_ap, parK2_ap, callO_ret, callF_ap, callK_ap, fin_nx, fin_rt, oAt_ow, ownAt_ap, callMR_ret, callMK2_some, callMK_ap, callM0_some, callMF_ap, finM_nx, finM_rt, oL_ow, ownL_ap, appK2_some, appK_ap, app0_some, appF_ap, pop2_some, pop0_some, popF_ap, setI3_some, setI2_some, setIK2_ap, setI1_some, setIK_ap, setIF_ap, lkAt_fz, lkAt_ow, lookAt_ap, ixP2_ap, ixPK_ap, ixP0_some, ixPF_ap, scOut_some, isSc_bl, isSc_int, opPLK_ap, opPL0_some, opPLF_ap, opPRK_ap, opPRF_ap, nilMs_ap, consMs_ap, consMK_ap, consMK2_ap, par3F_ap, par3K_ap, dinP2_ap, dinP2_t, dinPK_ap, dinPF_ap, toKey_tup, toKeys_tup, toKey_int, dnewM_ap, done1M_ap, done1K_ap, done1K2_ap, dputO_some, dputK2_ap, dput1_some, dputK_ap, dputF_ap, itemsD_lst, itemsD_tup, itemsD_str, itF_ap, itK_ap, enF_ap, enK_lst, enK_tup, enK_str, rng1F_ap, rng2F_ap, rng2K_ap, starK2_ap, starF_ap, starK_lst, starK_tup, starK_str, forS_ap, forK_ap, lcM_ap, lcK_ap, mkL_ap, tYesF_ap, wipeE_nil, wipeE_cons, addD_int, subD_int, negD_int, cmpD_int, intD_int, intD_bl, tupleD_lst, tupleD_tup, listD_tup, eqD_int, neD_int, lenA_lst, lenA_tup, lenA_scr, lenD_lst, isiF_ap, isoF_ap, fldF_ap, fldK_one, joinF_ap, joinK_ap, joinK2_lst, makeR_ret, makeM_ap, makeK_ap, noPF_ap, partF_ap, partK_ap, slF_ap, slK_ap, slK2_ap, slK3_ap, bools_map, allD_rep, sortKF_ap, sortKK_ap, isi2F_ap, propF_ap, propK_ap, min2D_ap, max2D_ap, absD_ap, rg1F_ap, rg1K_ap, rg2F_ap, rg2K_ap, rg2K2_ap, tupRgF_ap, lstRgM_ap, lc2M_ap, lc2K_ap, dnewTM_ap, done1TM_ap, done1TK_ap, done1TK2_ap, listP0_ap, listPF_ap, dgetF_ap, dgetP2_ap, dgetPK_ap, dgetP0_ap, dgetPF_ap, starRgF_ap, starRgK2_ap, remO_ap, remK_ap, rem0_ap, remF_ap, listM_ap, listK_ap, ownL1_ap, extK2_some, extK_lst, ext0_some, extF_ap, forO0_some, y1, y2, y3]
        · simp -implicitDefEqProofs only [runF, runM, envOf, envM, List.map_cons, List.map_nil, List.length_cons, List.length_nil, List.cons_append, List.nil_append, List.replicate, List.getElem?_cons_succ, List.getElem?_cons_zero, List.set_cons_succ, List.set_cons_zero, if_true, Bool.false_eq_true, if_false, Nat.reduceAdd, Nat.reduceSub, Nat.zero_add, Nat.zero_le, Bool.not_true, Bool.not_false, Option.some.injEq, Option.bind_some, Nat.reduceLeDiff, bnd_ok, bnd_bad, toS_ok, toS_bad, opt_some, opt_none, vOut_fz, vOut_ow, varF_ap, cF_ap, op2F_ap, op2K_ap, op2K2_ap, op1F_ap, op1K_ap, nilF_ap, consF_ap, consK_ap, consK2_ap, tupF_ap, tupK_ap, lstM_ap, lstK_ap, slget_fz, slget_ow, frzF_ap, frzK_ap, fzM_ap, fzK_ap, cbF_ap, cbK_ap, asB_bl, testF_ap, testK_ap, andT_ap, andTK_ap, orT_ap, orTK_ap, notT_ap, notTK_ap, andV_ap, andVK_ap, orV_ap, orVK_ap, notV_ap, notVK_ap, ifE_ap, ifEK_ap, chainF_ap, chainK_ap, chainK3_ap, chainK2_cmp, thn_nx, thn_rt, thn_bad, seqF_ap, ifS_ap, ifSK_ap, retF_ap, retK_ap, retN_ap, nxF_ap, neverF_ap, dropF_ap, dropK_ap, gnF_ap, gnilF_ap, gconsF_ap, gtupF_ap, optS_some, asgF_ap, asgK_ap, setM_ap, setK_ap, parF_ap, parK_ap, parK2_ap, callO_ret, callF_ap, callK_ap, fin_nx, fin_rt, oAt_ow, ownAt_ap, callMR_ret, callMK2_some, callMK_ap, callM0_some, callMF_ap, finM_nx, finM_rt, oL_ow, ownL_ap, appK2_some, appK_ap, app0_some, appF_ap, pop2_some, pop0_some, popF_ap, setI3_some, setI2_some, setIK2_ap, setI1_some, setIK_ap, setIF_ap, lkAt_fz, lkAt_ow, lookAt_ap, ixP2_ap, ixPK_ap, ixP0_some, ixPF_ap, scOut_some, isSc_bl, isSc_int, opPLK_ap, opPL0_some, opPLF_ap, opPRK_ap, opPRF_ap, nilMs_ap, consMs_ap, consMK_ap, consMK2_ap, par3F_ap, par3K_ap, dinP2_ap, dinP2_t, dinPK_ap, dinPF_ap, toKey_tup, toKeys_tup, toKey_int, dnewM_ap, done1M_ap, done1K_ap, done1K2_ap, dputO_some, dputK2_ap, dput1_some, dputK_ap, dputF_ap, itemsD_lst, itemsD_tup, itemsD_str, itF_ap, itK_ap, enF_ap, enK_lst, enK_tup, enK_str, rng1F_ap, rng2F_ap, rng2K_ap, starK2_ap, starF_ap, starK_lst, starK_tup, starK_str, forS_ap, forK_ap, lcM_ap, lcK_ap, mkL_ap, tYesF_ap, wipeE_nil, wipeE_cons, addD_int, subD_int, negD_int, cmpD_int, intD_int, intD_bl, tupleD_lst, tupleD_tup, listD_tup, eqD_int, neD_int, lenA_lst, lenA_tup, lenA_scr, lenD_lst, isiF_ap, isoF_ap, fldF_ap, fldK_one, joinF_ap, joinK_ap, joinK2_lst, makeR_ret, makeM_ap, makeK_ap, noPF_ap, partF_ap, partK_ap, slF_ap, slK_ap, slK2_ap, slK3_ap, bools_map, allD_rep, sortKF_ap, sortKK_ap, isi2F_ap, propF_ap, propK_ap, min2D_ap, max2D_ap, absD_ap, rg1F_ap, rg1K_ap, rg2F_ap, rg2K_ap, rg2K2_ap, tupRgF_ap, lstRgM_ap, lc2M_ap, lc2K_ap, dnewTM_ap, done1TM_ap, done1TK_ap, done1TK2_ap, listP0_ap, listPF_ap, dgetF_ap, dgetP2_ap, dgetPK_ap, dgetP0_ap, dgetPF_ap, starRgF_ap, starRgK2_ap, remO_ap, remK_ap, rem0_ap, remF_ap, listM_ap, listK_ap, ownL1_ap, extK2_some, extK_lst, ext0_some, extF_ap, forO0_some]
          rfl
      have x4 := led_upto ok (Nat.le_of_lt hi')
      have x5 := ledR_len t i
      have x6 : addD (lotsD ((List.range' 0 i).flatMap (ledR t))) (.lst ((ledR t i).map lotD)) = some (lotsD ((List.range' 0 (i + 1)).flatMap (ledR t))) := by
        have := add_lots (A := (List.range' 0 i).flatMap (ledR t)) (B := ledR t i) (by omega)
        rw [List.range'_1_concat, List.flatMap_append]
        simp only [List.flatMap_cons, List.flatMap_nil, List.append_nil, Nat.zero_add]
        exact this
      simp -implicitDefEqProofs only [runF, runM, envOf, envM, List.map_cons, List.map_nil, List.length_cons, List.length_nil, List.cons_append, List.nil_append, List.replicate, List.getElem?_cons_succ, List.getElem?_cons_zero, List.set_cons_succ, List.set_cons_zero, if_true, Bool.false_eq_true, if_false, Nat.reduceAdd, Nat.reduceSub, Nat.zero_add, Nat.zero_le, Bool.not_true, Bool.not_false, Option.some.injEq, Option.bind_some, Nat.reduceLeDiff, bnd_ok, bnd_bad, toS_ok, toS_bad, opt_some, opt_none, vOut_fz, vOut_ow, varF_ap, cF_ap, op2F_ap, op2K_ap, op2K2_ap, op1F_ap, op1K_ap, nilF_ap, consF_ap, consK_ap, consK2_ap, tupF_ap, tupK_ap, lstM_ap, lstK_ap, slget_fz, slget_ow, frzF_ap, frzK_ap, fzM_ap, fzK_ap, cbF_ap, cbK_ap, asB_bl, testF_ap, testK_ap, andT_ap, andTK_ap, orT_ap, orTK_ap, notT_ap, notTK_ap, andV_ap, andVK_ap, orV_ap, orVK_ap, notV_ap, notVK_ap, ifE_ap, ifEK_ap, chainF_ap, chainK_ap, chainK3_ap, chainK2_cmp, thn_nx, thn_rt, thn_bad, seqF_ap, ifS_ap, ifSK_ap, retF_ap, retK_ap, retN_ap, nxF_ap, neverF_ap, dropF_ap, dropK_ap, gnF_ap, gnilF_ap, gconsF_ap, gtupF_ap, optS_some, asgF_ap, asgK_ap, setM_ap, setK_ap, parF_ap, parK_ap, parK2_ap, callO_ret, callF_ap, callK_ap, fin_nx, fin_rt, oAt_ow, ownAt_ap, callMR_ret, callMK2_some, callMK_ap, callM0_some, callMF_ap, finM_nx, finM_rt, oL_ow, ownL_ap, appK2_some, appK_ap, app0_some, appF_ap, pop2_some, pop0_some, popF_ap, setI3_some, setI2_some, setIK2_ap, setI1_some, setIK_ap, setIF_ap, lkAt_fz, lkAt_ow, lookAt_ap, ixP2_ap, ixPK_ap, ixP0_some, ixPF_ap, scOut_some, isSc_bl, isSc_int, opPLK_ap, opPL0_some, opPLF_ap, opPRK_ap, opPRF_ap, nilMs_ap, consMs_ap, consMK_ap, consMK2_ap, par3F_ap, par3K_ap, dinP2_ap, dinP2_t, dinPK_ap, dinPF_ap, toKey_tup, toKeys_tup, toKey_int, dnewM_ap, done1M_ap, done1K_ap, done1K2_ap, dputO_some, dputK2_ap, dput1_some, dputK_ap, dputF_ap, itemsD_lst, itemsD_tup, itemsD_str, itF_ap, itK_ap, enF_ap, enK_lst, enK_tup, enK_str, rng1F_ap, rng2F_ap, rng2K_ap, starK2_ap, starF_ap, starK_lst, starK_tup, starK_str, forS_ap, forK_ap, lcM_ap, lcK_ap, mkL_ap, tYesF_ap, wipeE_nil, wipeE_cons, addD_int, subD_int, negD_int, cmpD_int, intD_int, intD_bl, tupleD_lst, tupleD_tup, listD_tup, eqD_int, neD_int, lenA_lst, lenA_tup, lenA_scr, lenD_lst, isiF_ap, isoF_ap, fldF_ap, fldK_one, joinF_ap, joinK_ap, joinK2_lst, makeR_ret, makeM_ap, makeK_ap, noPF_ap, partF_ap, partK_ap, slF_ap, slK_ap, slK2_ap, slK3_ap, bools_map, allD_rep, sortKF_ap, sortKK_ap, isi2F_ap, propF_ap, propK_ap, min2D_ap, max2D_ap, absD_ap, rg1F_ap, rg1K_ap, rg2F_ap, rg2K_ap, rg2K2_ap, tupRgF_ap, lstRgM_ap, lc2M_ap, lc2K_ap, dnewTM_ap, done1TM_ap, done1TK_ap, done1TK2_ap, listP0_ap, listPF_ap, dgetF_ap, dgetP2_ap, dgetPK_ap, dgetP0_ap, dgetPF_ap, starRgF_ap, starRgK2_ap, remO_ap, remK_ap, rem0_ap, remF_ap, listM_ap, listK_ap, ownL1_ap, extK2_some, extK_lst, ext0_some, extF_ap, forO0_some, B__law_led_L1, x1, x2, x3, el, x6])
  have x0 : lenA 0 F_Board___len__ [clsD t] = some (.int t.length) := by simp [clsD]
  have x3 : ∀ ε : Env, rng1K (.int t.length) ε = .ok ((List.range' 0 t.length).map nD) ε := rng_nat t.length (by omega)
  rw [List.length_range'] at e
  simp only [B__law_led_L1] at e
  simp -implicitDefEqProofs only [runF, runM, envOf, envM, List.map_cons, List.map_nil, List.length_cons, List.length_nil, List.cons_append, List.nil_append, List.replicate, List.getElem?_cons_succ, List.getElem?_cons_zero, List.set_cons_succ, List.set_cons_zero, if_true, Bool.false_eq_true, if_false, Nat.reduceAdd, Nat.reduceSub, Nat.zero_add, Nat.zero_le, Bool.not_true, Bool.not_false, Option.some.injEq, Option.bind_some, Nat.reduceLeDiff, bnd_ok, bnd_bad, toS_ok, toS_bad, opt_some, opt_none, vOut_fz, vOut_ow, varF_ap, cF_ap, op2F_ap, op2K_ap, op2K2_ap, op1F_ap, op1K_ap, nilF_ap, consF_ap, consK_ap, consK2_ap, tupF_ap, tupK_ap, lstM_ap, lstK_ap, slget_fz, slget_ow, frzF_ap, frzK_ap, fzM_ap, fzK_ap, cbF_ap, cbK_ap, asB_bl, testF_ap, testK_ap, andT_ap, andTK_ap, orT_ap, orTK_ap, notT_ap, notTK_ap, andV_ap, andVK_ap, orV_ap, orVK_ap, notV_ap, notVK_ap, ifE_ap, ifEK_ap, chainF_ap, chainK_ap, chainK3_ap, chainK2_cmp, thn_nx, thn_rt, thn_bad, seqF_ap, ifS_ap, ifSK_ap, retF_ap, retK_ap, retN_ap, nxF_ap, neverF_ap, dropF_ap, dropK_ap, gnF_ap, gnilF_ap, gconsF_ap, gtupF_ap, optS_some, asgF_ap, asgK_ap, setM_ap, setK_ap, parF_ap, parK_ap, parK2_ap, callO_ret, callF_ap, callK_ap, fin_nx, fin_rt, oAt_ow, ownAt_ap, callMR_ret, callMK2_some, callMK_ap, callM0_some, callMF_ap, finM_nx, finM_rt, oL_ow, ownL_ap, appK2_some, appK_ap, app0_some, appF_ap, pop2_some, pop0_some, popF_ap, setI3_some, setI2_some, setIK2_ap, setI1_some, setIK_ap, setIF_ap, lkAt_fz, lkAt_ow, lookAt_ap, ixP2_ap, ixPK_ap, ixP0_some, ixPF_ap, scOut_some, isSc_bl, isSc_int, opPLK_ap, opPL0_some, opPLF_ap, opPRK_ap, opPRF_ap, nilMs_ap, consMs_ap, consMK_ap, consMK2_ap, par3F_ap, par3K_ap, dinP2_ap, dinP2_t, dinPK_ap, dinPF_ap, toKey_tup, toKeys_tup, toKey_int, dnewM_ap, done1M_ap, done1K_ap, done1K2_ap, dputO_some, dputK2_ap, dput1_some, dputK_ap, dputF_ap, itemsD_lst, itemsD_tup, itemsD_str, itF_ap, itK_ap, enF_ap, enK_lst, enK_tup, enK_str, rng1F_ap, rng2F_ap, rng2K_ap, starK2_ap, starF_ap, starK_lst, starK_tup, starK_str, forS_ap, forK_ap, lcM_ap, lcK_ap, mkL_ap, tYesF_ap, wipeE_nil, wipeE_cons, addD_int, subD_int, negD_int, cmpD_int, intD_int, intD_bl, tupleD_lst, tupleD_tup, listD_tup, eqD_int, neD_int, lenA_lst, lenA_tup, lenA_scr, lenD_lst, isiF_ap, isoF_ap, fldF_ap, fldK_one, joinF_ap, joinK_ap, joinK2_lst, makeR_ret, makeM_ap, makeK_ap, noPF_ap, partF_ap, partK_ap, slF_ap, slK_ap, slK2_ap, slK3_ap, bools_map, allD_rep, sortKF_ap, sortKK_ap, isi2F_ap, propF_ap, propK_ap, min2D_ap, max2D_ap, absD_ap, rg1F_ap, rg1K_ap, rg2F_ap, rg2K_ap, rg2K2_ap, tupRgF_ap, lstRgM_ap, lc2M_ap, lc2K_ap, dnewTM_ap, done1TM_ap, done1TK_ap, done1TK2_ap, listP0_ap, listPF_ap, dgetF_ap, dgetP2_ap, dgetPK_ap, dgetP0_ap, dgetPF_ap, starRgF_ap, starRgK2_ap, remO_ap, remK_ap, rem0_ap, remF_ap, listM_ap, listK_ap, ownL1_ap, extK2_some, extK_lst, ext0_some, extF_ap, forO0_some, F__law_led, B__law_led, x0, x3, e]
  rfl
theorem enZ_rg {α : Type} (g : α → D) (xs : List α) (z : α) : enZ g 0 xs = (List.range' 0 xs.length).map fun j => .tup [nD j, g (xs.getD j z)] := by
  unfold enZ
  apply List.ext_getElem
  · simp
  · intro i h1 h2
    simp only [List.length_map, List.length_zipIdx] at h1
    simp [h1]
theorem F_led_cells_eq {t : Tb} (ok : BOk t) : F_led_cells [bdD t] = .ret (lotsD (ledL t)) := by
  have h5 := ok.h5
  have w5 := ok.w5
  obtain ⟨ε', e, s2, s3, rfl⟩ := forL (gf := gtupF 2 (gconsF (gnF 2) (gconsF (gnF 3) gnilF))) (F := B_led_cells_L1) (fun i => D.tup [nD i, lnD (t.getD i [])]) (List.range' 0 t.length)
    (fun i ε => ∃ s2 s3, ε = [.fz (bdD t), .ow (lotsD ((List.range' 0 i).flatMap (ledR t))), s2, s3, .no, .no]) [.fz (bdD t), .ow (.lst []), .no, .no, .no, .no] ⟨.no, .no, rfl⟩ (by
      rintro i hi ε ⟨s2, s3, rfl⟩
      have hi' : i < t.length := by simpa using hi
      have ei : (List.range' 0 t.length)[i] = i := by simp
      rw [ei]
      refine ⟨[.fz (bdD t), .ow (lotsD ((List.range' 0 i).flatMap (ledR t))), .fz (nD i), .fz (lnD (t.getD i [])), .no, .no], _, by simp -implicitDefEqProofs only [runF, runM, envOf, envM, List.map_cons, List.map_nil, List.length_cons, List.length_nil, List.cons_append, List.nil_append, List.replicate, List.getElem?_cons_succ, List.getElem?_cons_zero, List.set_cons_succ, List.set_cons_zero, if_true, Bool.false_eq_true, if_false, Nat.reduceAdd, Nat.reduceSub, Nat.zero_add, Nat.zero_le, Bool.not_true, Bool.not_false, Option.some.injEq, Option.bind_some, Nat.reduceLeDiff, bnd_ok, bnd_bad, toS_ok, toS_bad, opt_some, opt_none, vOut_fz, vOut_ow, varF_ap, cF_ap, op2F_ap, op2K_ap, op2K2_ap, op1F_ap, op1K_ap, nilF_ap, consF_ap, consK_ap, consK2_ap, tupF_ap, tupK_ap, lstM_ap, lstK_ap, slget_fz, slget_ow, frzF_ap, frzK_ap, fzM_ap, fzK_ap, cbF_ap, cbK_ap, asB_bl, testF_ap, testK_ap, andT_ap, andTK_ap, orT_ap, orTK_ap, notT_ap, notTK_ap, andV_ap, andVK_ap, orV_ap, orVK_ap, notV_ap, notVK_ap, ifE_ap, ifEK_ap, chainF_ap, chainK_ap, chainK3_ap, chainK2_cmp, thn_nx, thn_rt, thn_bad, seqF_ap, ifS_ap, ifSK_ap, retF_ap, retK_ap, retN_ap, nxF_ap, neverF_ap, dropF_ap, dropK_ap, gnF_ap, gnilF_ap, gconsF_ap, gtupF_ap, optS_some, asgF_ap, asgK_ap, setM_ap, setK_ap, parF_ap, parK_ap, parK2_ap, callO_ret, callF_ap, callK_ap, fin_nx, fin_rt, oAt_ow, ownAt_ap, callMR_ret, callMK2_some, callMK_ap, callM0_some, callMF_ap, finM_nx, finM_rt, oL_ow, ownL_ap, appK2_some, appK_ap, app0_some, appF_ap, pop2_some, pop0_some, popF_ap, setI3_some, setI2_some, setIK2_ap, setI1_some, setIK_ap, setIF_ap, lkAt_fz, lkAt_ow, lookAt_ap, ixP2_ap, ixPK_ap, ixP0_some, ixPF_ap, scOut_some, isSc_bl, isSc_int, opPLK_ap, opPL0_some, opPLF_ap, opPRK_ap, opPRF_ap, nilMs_ap, consMs_ap, consMK_ap, consMK2_ap, par3F_ap, par3K_ap, dinP2_ap, dinP2_t, dinPK_ap, dinPF_ap, toKey_tup, toKeys_tup, toKey_int, dnewM_ap, done1M_ap, done1K_ap, done1K2_ap, dputO_some, dputK2_ap, dput1_some, dputK_ap, dputF_ap, itemsD_lst, itemsD_tup, itemsD_str, itF_ap, itK_ap, enF_ap, enK_lst, enK_tup, enK_str, rng1F_ap, rng2F_ap, rng2K_ap, starK2_ap, starF_ap, starK_lst, starK_tup, starK_str, forS_ap, forK_ap, lcM_ap, lcK_ap, mkL_ap, tYesF_ap, wipeE_nil, wipeE_cons, addD_int, subD_int, negD_int, cmpD_int, intD_int, intD_bl, tupleD_lst, tupleD_tup, listD_tup, eqD_int, neD_int, lenA_lst, lenA_tup, lenA_scr, lenD_lst, isiF_ap, isoF_ap, fldF_ap, fldK_one, joinF_ap, joinK_ap, joinK2_lst, makeR_ret, makeM_ap, makeK_ap, noPF_ap, partF_ap, partK_ap, slF_ap, slK_ap, slK2_ap, slK3_ap, bools_map, allD_rep, sortKF_ap, sortKK_ap, isi2F_ap, propF_ap, propK_ap, min2D_ap, max2D_ap, absD_ap, rg1F_ap, rg1K_ap, rg2F_ap, rg2K_ap, rg2K2_ap, tupRgF_ap, lstRgM_ap, lc2M_ap, lc2K_ap, dnewTM_ap, done1TM_ap, done1TK_ap, done1TK2_ap, listP0_ap, listPF_ap, dgetF_ap, dgetP2_ap, dgetPK_ap, dgetP0_ap, dgetPF_ap, starRgF_ap, starRgK2_ap, remO_ap, remK_ap, rem0_ap, remF_ap, listM_ap, listK_ap, ownL1_ap, extK2_some, extK_lst, ext0_some, extF_ap, forO0_some], ?_, .fz (nD i), .fz (lnD (t.getD i [])), rfl⟩
      have ek : ∀ ε : Env, enK (lnD (t.getD i [])) ε = .ok ((List.range' 0 (wd t)).map fun j => D.tup [nD j, sgD (cAt t i j)]) ε := fun ε => by
        have es : enumD (signsD ⟨(t.getD i []).toArray⟩) = enZ sgD 0 (t.getD i []) := by rw [signs_ln]; exact enumD_map _ _
        unfold lnD
        rw [enK_str, es, enZ_rg sgD _ 0, row_len ok hi']; rfl
      have el : lcL [4, 5] (gtupF 2 (gconsF (gnF 4) (gconsF (gnF 5) gnilF))) (testF (op2F (varF 5) (cF (.str ".")) neD)) (tupF (consF (varF 2) (consF (varF 4) nilF))) ((List.range' 0 (wd t)).map fun j => D.tup [nD j, sgD (cAt t i j)]) [] [.fz (bdD t), .ow (lotsD ((List.range' 0 i).flatMap (ledR t))), .fz (nD i), .fz (lnD (t.getD i [])), .no, .no]
          = .ok ((ledR t i).map lotD) [.fz (bdD t), .ow (lotsD ((List.range' 0 i).flatMap (ledR t))), .fz (nD i), .fz (lnD (t.getD i [])), .no, .no] := by
        have q : (ledR t i).map lotD = (((List.range' 0 (wd t)).filter fun j => !decide (cAt t i j = 46)).map fun j => lotD [i, j]) := by
          unfold ledR
          rw [List.map_map]; rfl
        rw [q]
        refine lc_fltY (fun j => D.tup [nD j, sgD (cAt t i j)]) _ _ (List.range' 0 (wd t)) (by simp; omega) fun j hj => ⟨[.fz (bdD t), .ow (lotsD ((List.range' 0 i).flatMap (ledR t))), .fz (nD i), .fz (lnD (t.getD i [])), .fz (nD j), .fz (sgD (cAt t i j))], by simp -implicitDefEqProofs only [runF, runM, envOf, envM, List.map_cons, List.map_nil, List.length_cons, List.length_nil, List.cons_append, List.nil_append, List.replicate, List.getElem?_cons_succ, List.getElem?_cons_zero, List.set_cons_succ, List.set_cons_zero, if_true, Bool.false_eq_true, if_false, Nat.reduceAdd, Nat.reduceSub, Nat.zero_add, Nat.zero_le, Bool.not_true, Bool.not_false, Option.some.injEq, Option.bind_some, Nat.reduceLeDiff, bnd_ok, bnd_bad, toS_ok, toS_bad, opt_some, opt_none, vOut_fz, vOut_ow, varF_ap, cF_ap, op2F_ap, op2K_ap, op2K2_ap, op1F_ap, op1K_ap, nilF_ap, consF_ap, consK_ap, consK2_ap, tupF_ap, tupK_ap, lstM_ap, lstK_ap, slget_fz, slget_ow, frzF_ap, frzK_ap, fzM_ap, fzK_ap, cbF_ap, cbK_ap, asB_bl, testF_ap, testK_ap, andT_ap, andTK_ap, orT_ap, orTK_ap, notT_ap, notTK_ap, andV_ap, andVK_ap, orV_ap, orVK_ap, notV_ap, notVK_ap, ifE_ap, ifEK_ap, chainF_ap, chainK_ap, chainK3_ap, chainK2_cmp, thn_nx, thn_rt, thn_bad, seqF_ap, ifS_ap, ifSK_ap, retF_ap, retK_ap, retN_ap, nxF_ap, neverF_ap, dropF_ap, dropK_ap, gnF_ap, gnilF_ap, gconsF_ap, gtupF_ap, optS_some, asgF_ap, asgK_ap, setM_ap, setK_ap, parF_ap, parK_ap, parK2_ap, callO_ret, callF_ap, callK_ap, fin_nx, fin_rt, oAt_ow, ownAt_ap, callMR_ret, callMK2_some, callMK_ap, callM0_some, callMF_ap, finM_nx, finM_rt, oL_ow, ownL_ap, appK2_some, appK_ap, app0_some, appF_ap, pop2_some, pop0_some, popF_ap, setI3_some, setI2_some, setIK2_ap, setI1_some, setIK_ap, setIF_ap, lkAt_fz, lkAt_ow, lookAt_ap, ixP2_ap, ixPK_ap, ixP0_some, ixPF_ap, scOut_some, isSc_bl, isSc_int, opPLK_ap, opPL0_some, opPLF_ap, opPRK_ap, opPRF_ap, nilMs_ap, consMs_ap, consMK_ap, consMK2_ap, par3F_ap, par3K_ap, dinP2_ap, dinP2_t, dinPK_ap, dinPF_ap, toKey_tup, toKeys_tup, toKey_int, dnewM_ap, done1M_ap, done1K_ap, done1K2_ap, dputO_some, dputK2_ap, dput1_some, dputK_ap, dputF_ap, itemsD_lst, itemsD_tup, itemsD_str, itF_ap, itK_ap, enF_ap, enK_lst, enK_tup, enK_str, rng1F_ap, rng2F_ap, rng2K_ap, starK2_ap, starF_ap, starK_lst, starK_tup, starK_str, forS_ap, forK_ap, lcM_ap, lcK_ap, mkL_ap, tYesF_ap, wipeE_nil, wipeE_cons, addD_int, subD_int, negD_int, cmpD_int, intD_int, intD_bl, tupleD_lst, tupleD_tup, listD_tup, eqD_int, neD_int, lenA_lst, lenA_tup, lenA_scr, lenD_lst, isiF_ap, isoF_ap, fldF_ap, fldK_one, joinF_ap, joinK_ap, joinK2_lst, makeR_ret, makeM_ap, makeK_ap, noPF_ap, partF_ap, partK_ap, slF_ap, slK_ap, slK2_ap, slK3_ap, bools_map, allD_rep, sortKF_ap, sortKK_ap, isi2F_ap, propF_ap, propK_ap, min2D_ap, max2D_ap, absD_ap, rg1F_ap, rg1K_ap, rg2F_ap, rg2K_ap, rg2K2_ap, tupRgF_ap, lstRgM_ap, lc2M_ap, lc2K_ap, dnewTM_ap, done1TM_ap, done1TK_ap, done1TK2_ap, listP0_ap, listPF_ap, dgetF_ap, dgetP2_ap, dgetPK_ap, dgetP0_ap, dgetPF_ap, starRgF_ap, starRgK2_ap, remO_ap, remK_ap, rem0_ap, remF_ap, listM_ap, listK_ap, ownL1_ap, extK2_some, extK_lst, ext0_some, extF_ap, forO0_some], rfl, ?_, fun _ => ?_⟩
        · have hj' : j < wd t := by simpa using hj
          have y3 := ne_dot (cAt_lt ok hi' hj')
          simp -implicitDefEqProofs only [runF, runM, envOf, envM, List.map_cons, List.map_nil, List.length_cons, List.length_nil, List.cons_append, List.nil_append, List.replicate, List.getElem?_cons_succ, List.getElem?_cons_zero, List.set_cons_succ, List.set_cons_zero, if_true, Bool.false_eq_true, if_false, Nat.reduceAdd, Nat.reduceSub, Nat.zero_add, Nat.zero_le, Bool.not_true, Bool.not_false, Option.some.injEq, Option.bind_some, Nat.reduceLeDiff, bnd_ok, bnd_bad, toS_ok, toS_bad, opt_some, opt_none, vOut_fz, vOut_ow, varF_ap, cF_ap, op2F_ap, op2K_ap, op2K2_ap, op1F_ap, op1K_ap, nilF_ap, consF_ap, consK_ap, consK2_ap, tupF_ap, tupK_ap, lstM_ap, lstK_ap, slget_fz, slget_ow, frzF_ap, frzK_ap, fzM_ap, fzK_ap, cbF_ap, cbK_ap, asB_bl, testF_ap, testK_ap, andT_ap, andTK_ap, orT_ap, orTK_ap, notT_ap, notTK_ap, andV_ap, andVK_ap, orV_ap, orVK_ap, notV_ap, notVK_ap, ifE_ap, ifEK_ap, chainF_ap, chainK_ap, chainK3_ap, chainK2_cmp, thn_nx, thn_rt, thn_bad, seqF_ap, ifS_ap, ifSK_ap, retF_ap, retK_ap, retN_ap, nxF_ap, neverF_ap, dropF_ap, dropK_ap, gnF_ap, gnilF_ap, gconsF_ap, gtupF_ap, optS_some, asgF_ap, asgK_ap, setM_ap, setK_ap, parF_ap, parK_ap, parK2_ap, callO_ret, callF_ap, callK_ap, fin_nx, fin_rt, oAt_ow, ownAt_ap, callMR_ret, callMK2_some, callMK_ap, callM0_some, callMF_ap, finM_nx, finM_rt, oL_ow, ownL_ap, appK2_some, appK_ap, app0_some, appF_ap, pop2_some, pop0_some, popF_ap, setI3_some, setI2_some, setIK2_ap, setI1_some, setIK_ap, setIF_ap, lkAt_fz, lkAt_ow, lookAt_ap, ixP2_ap, ixPK_ap, ixP0_some, ixPF_ap, scOut_some, isSc_bl, isSc_int, opPLK_ap, opPL0_some, opPLF_ap, opPRK_ap, opPRF_ap, nilMs_ap, consMs_ap, consMK_ap, consMK2_ap, par3F_ap, par3K_ap, dinP2_ap, dinP2_t, dinPK_ap, dinPF_ap, toKey_tup, toKeys_tup, toKey_int, dnewM_ap, done1M_ap, done1K_ap, done1K2_ap, dputO_some, dputK2_ap, dput1_some, dputK_ap, dputF_ap, itemsD_lst, itemsD_tup, itemsD_str, itF_ap, itK_ap, enF_ap, enK_lst, enK_tup, enK_str, rng1F_ap, rng2F_ap, rng2K_ap, starK2_ap, starF_ap, starK_lst, starK_tup, starK_str, forS_ap, forK_ap, lcM_ap, lcK_ap, mkL_ap, tYesF_ap, wipeE_nil, wipeE_cons, addD_int, subD_int, negD_int, cmpD_int, intD_int, intD_bl, tupleD_lst, tupleD_tup, listD_tup, eqD_int, neD_int, lenA_lst, lenA_tup, lenA_scr, lenD_lst, isiF_ap, isoF_ap, fldF_ap, fldK_one, joinF_ap, joinK_ap, joinK2_lst, makeR_ret, makeM_ap, makeK_ap, noPF_ap, partF_ap, partK_ap, slF_ap, slK_ap, slK2_ap, slK3_ap, bools_map, allD_rep, sortKF_ap, sortKK_ap, isi2F_ap, propF_ap, propK_ap, min2D_ap, max2D_ap, absD_ap, rg1F_ap, rg1K_ap, rg2F_ap, rg2K_ap, rg2K2_ap, tupRgF_ap, lstRgM_ap, lc2M_ap, lc2K_ap, dnewTM_ap, done1TM_ap, done1TK_ap, done1TK2_ap, listP0_ap, listPF_ap, dgetF_ap, dgetP2_ap, dgetPK_ap, dgetP0_ap, dgetPF_ap, starRgF_ap, starRgK2_ap, remO_ap, remK_ap, rem0_ap, remF_ap, listM_ap, listK_ap, ownL1_ap, extK2_some, extK_lst, ext0_some, extF_ap, forO0_some, y3]
        · simp -implicitDefEqProofs only [runF, runM, envOf, envM, List.map_cons, List.map_nil, List.length_cons, List.length_nil, List.cons_append, List.nil_append, List.replicate, List.getElem?_cons_succ, List.getElem?_cons_zero, List.set_cons_succ, List.set_cons_zero, if_true, Bool.false_eq_true, if_false, Nat.reduceAdd, Nat.reduceSub, Nat.zero_add, Nat.zero_le, Bool.not_true, Bool.not_false, Option.some.injEq, Option.bind_some, Nat.reduceLeDiff, bnd_ok, bnd_bad, toS_ok, toS_bad, opt_some, opt_none, vOut_fz, vOut_ow, varF_ap, cF_ap, op2F_ap, op2K_ap, op2K2_ap, op1F_ap, op1K_ap, nilF_ap, consF_ap, consK_ap, consK2_ap, tupF_ap, tupK_ap, lstM_ap, lstK_ap, slget_fz, slget_ow, frzF_ap, frzK_ap, fzM_ap, fzK_ap, cbF_ap, cbK_ap, asB_bl, testF_ap, testK_ap, andT_ap, andTK_ap, orT_ap, orTK_ap, notT_ap, notTK_ap, andV_ap, andVK_ap, orV_ap, orVK_ap, notV_ap, notVK_ap, ifE_ap, ifEK_ap, chainF_ap, chainK_ap, chainK3_ap, chainK2_cmp, thn_nx, thn_rt, thn_bad, seqF_ap, ifS_ap, ifSK_ap, retF_ap, retK_ap, retN_ap, nxF_ap, neverF_ap, dropF_ap, dropK_ap, gnF_ap, gnilF_ap, gconsF_ap, gtupF_ap, optS_some, asgF_ap, asgK_ap, setM_ap, setK_ap, parF_ap, parK_ap, parK2_ap, callO_ret, callF_ap, callK_ap, fin_nx, fin_rt, oAt_ow, ownAt_ap, callMR_ret, callMK2_some, callMK_ap, callM0_some, callMF_ap, finM_nx, finM_rt, oL_ow, ownL_ap, appK2_some, appK_ap, app0_some, appF_ap, pop2_some, pop0_some, popF_ap, setI3_some, setI2_some, setIK2_ap, setI1_some, setIK_ap, setIF_ap, lkAt_fz, lkAt_ow, lookAt_ap, ixP2_ap, ixPK_ap, ixP0_some, ixPF_ap, scOut_some, isSc_bl, isSc_int, opPLK_ap, opPL0_some, opPLF_ap, opPRK_ap, opPRF_ap, nilMs_ap, consMs_ap, consMK_ap, consMK2_ap, par3F_ap, par3K_ap, dinP2_ap, dinP2_t, dinPK_ap, dinPF_ap, toKey_tup, toKeys_tup, toKey_int, dnewM_ap, done1M_ap, done1K_ap, done1K2_ap, dputO_some, dputK2_ap, dput1_some, dputK_ap, dputF_ap, itemsD_lst, itemsD_tup, itemsD_str, itF_ap, itK_ap, enF_ap, enK_lst, enK_tup, enK_str, rng1F_ap, rng2F_ap, rng2K_ap, starK2_ap, starF_ap, starK_lst, starK_tup, starK_str, forS_ap, forK_ap, lcM_ap, lcK_ap, mkL_ap, tYesF_ap, wipeE_nil, wipeE_cons, addD_int, subD_int, negD_int, cmpD_int, intD_int, intD_bl, tupleD_lst, tupleD_tup, listD_tup, eqD_int, neD_int, lenA_lst, lenA_tup, lenA_scr, lenD_lst, isiF_ap, isoF_ap, fldF_ap, fldK_one, joinF_ap, joinK_ap, joinK2_lst, makeR_ret, makeM_ap, makeK_ap, noPF_ap, partF_ap, partK_ap, slF_ap, slK_ap, slK2_ap, slK3_ap, bools_map, allD_rep, sortKF_ap, sortKK_ap, isi2F_ap, propF_ap, propK_ap, min2D_ap, max2D_ap, absD_ap, rg1F_ap, rg1K_ap, rg2F_ap, rg2K_ap, rg2K2_ap, tupRgF_ap, lstRgM_ap, lc2M_ap, lc2K_ap, dnewTM_ap, done1TM_ap, done1TK_ap, done1TK2_ap, listP0_ap, listPF_ap, dgetF_ap, dgetP2_ap, dgetPK_ap, dgetP0_ap, dgetPF_ap, starRgF_ap, starRgK2_ap, remO_ap, remK_ap, rem0_ap, remF_ap, listM_ap, listK_ap, ownL1_ap, extK2_some, extK_lst, ext0_some, extF_ap, forO0_some]
          rfl
      have x4 := led_upto ok (Nat.le_of_lt hi')
      have x5 := ledR_len t i
      have eF : oL (some (.ow (lotsD ((List.range' 0 i).flatMap (ledR t))))) = some (((List.range' 0 i).flatMap (ledR t)).map lotD) := rfl
      have hle : (((List.range' 0 i).flatMap (ledR t)).map lotD).length + ((ledR t i).map lotD).length ≤ 100000 := by simp only [List.length_map]; omega
      have eq2 : D.lst (((List.range' 0 i).flatMap (ledR t)).map lotD ++ (ledR t i).map lotD) = lotsD ((List.range' 0 (i + 1)).flatMap (ledR t)) := by
        rw [List.range'_1_concat, List.flatMap_append]
        simp only [List.flatMap_cons, List.flatMap_nil, List.append_nil, Nat.zero_add]
        simp [lotsD]
      simp -implicitDefEqProofs only [runF, runM, envOf, envM, List.map_cons, List.map_nil, List.length_cons, List.length_nil, List.cons_append, List.nil_append, List.replicate, List.getElem?_cons_succ, List.getElem?_cons_zero, List.set_cons_succ, List.set_cons_zero, if_true, Bool.false_eq_true, if_false, Nat.reduceAdd, Nat.reduceSub, Nat.zero_add, Nat.zero_le, Bool.not_true, Bool.not_false, Option.some.injEq, Option.bind_some, Nat.reduceLeDiff, bnd_ok, bnd_bad, toS_ok, toS_bad, opt_some, opt_none, vOut_fz, vOut_ow, varF_ap, cF_ap, op2F_ap, op2K_ap, op2K2_ap, op1F_ap, op1K_ap, nilF_ap, consF_ap, consK_ap, consK2_ap, tupF_ap, tupK_ap, lstM_ap, lstK_ap, slget_fz, slget_ow, frzF_ap, frzK_ap, fzM_ap, fzK_ap, cbF_ap, cbK_ap, asB_bl, testF_ap, testK_ap, andT_ap, andTK_ap, orT_ap, orTK_ap, notT_ap, notTK_ap, andV_ap, andVK_ap, orV_ap, orVK_ap, notV_ap, notVK_ap, ifE_ap, ifEK_ap, chainF_ap, chainK_ap, chainK3_ap, chainK2_cmp, thn_nx, thn_rt, thn_bad, seqF_ap, ifS_ap, ifSK_ap, retF_ap, retK_ap, retN_ap, nxF_ap, neverF_ap, dropF_ap, dropK_ap, gnF_ap, gnilF_ap, gconsF_ap, gtupF_ap, optS_some, asgF_ap, asgK_ap, setM_ap, setK_ap, parF_ap, parK_ap, parK2_ap, callO_ret, callF_ap, callK_ap, fin_nx, fin_rt, oAt_ow, ownAt_ap, callMR_ret, callMK2_some, callMK_ap, callM0_some, callMF_ap, finM_nx, finM_rt, oL_ow, ownL_ap, appK2_some, appK_ap, app0_some, appF_ap, pop2_some, pop0_some, popF_ap, setI3_some, setI2_some, setIK2_ap, setI1_some, setIK_ap, setIF_ap, lkAt_fz, lkAt_ow, lookAt_ap, ixP2_ap, ixPK_ap, ixP0_some, ixPF_ap, scOut_some, isSc_bl, isSc_int, opPLK_ap, opPL0_some, opPLF_ap, opPRK_ap, opPRF_ap, nilMs_ap, consMs_ap, consMK_ap, consMK2_ap, par3F_ap, par3K_ap, dinP2_ap, dinP2_t, dinPK_ap, dinPF_ap, toKey_tup, toKeys_tup, toKey_int, dnewM_ap, done1M_ap, done1K_ap, done1K2_ap, dputO_some, dputK2_ap, dput1_some, dputK_ap, dputF_ap, itemsD_lst, itemsD_tup, itemsD_str, itF_ap, itK_ap, enF_ap, enK_lst, enK_tup, enK_str, rng1F_ap, rng2F_ap, rng2K_ap, starK2_ap, starF_ap, starK_lst, starK_tup, starK_str, forS_ap, forK_ap, lcM_ap, lcK_ap, mkL_ap, tYesF_ap, wipeE_nil, wipeE_cons, addD_int, subD_int, negD_int, cmpD_int, intD_int, intD_bl, tupleD_lst, tupleD_tup, listD_tup, eqD_int, neD_int, lenA_lst, lenA_tup, lenA_scr, lenD_lst, isiF_ap, isoF_ap, fldF_ap, fldK_one, joinF_ap, joinK_ap, joinK2_lst, makeR_ret, makeM_ap, makeK_ap, noPF_ap, partF_ap, partK_ap, slF_ap, slK_ap, slK2_ap, slK3_ap, bools_map, allD_rep, sortKF_ap, sortKK_ap, isi2F_ap, propF_ap, propK_ap, min2D_ap, max2D_ap, absD_ap, rg1F_ap, rg1K_ap, rg2F_ap, rg2K_ap, rg2K2_ap, tupRgF_ap, lstRgM_ap, lc2M_ap, lc2K_ap, dnewTM_ap, done1TM_ap, done1TK_ap, done1TK2_ap, listP0_ap, listPF_ap, dgetF_ap, dgetP2_ap, dgetPK_ap, dgetP0_ap, dgetPF_ap, starRgF_ap, starRgK2_ap, remO_ap, remK_ap, rem0_ap, remF_ap, listM_ap, listK_ap, ownL1_ap, extK2_some, extK_lst, ext0_some, extF_ap, forO0_some, B_led_cells_L1, ek, el, eF, hle, eq2])
  have x0 := prop_cells t
  have x1 : ∀ ε : Env, enK (clsD t) ε = .ok ((List.range' 0 t.length).map fun i => D.tup [nD i, lnD (t.getD i [])]) ε := fun ε => by unfold clsD; rw [enK_tup, enumD_map, enZ_rg lnD _ []]
  rw [List.length_range'] at e
  simp only [B_led_cells_L1] at e
  simp -implicitDefEqProofs only [runF, runM, envOf, envM, List.map_cons, List.map_nil, List.length_cons, List.length_nil, List.cons_append, List.nil_append, List.replicate, List.getElem?_cons_succ, List.getElem?_cons_zero, List.set_cons_succ, List.set_cons_zero, if_true, Bool.false_eq_true, if_false, Nat.reduceAdd, Nat.reduceSub, Nat.zero_add, Nat.zero_le, Bool.not_true, Bool.not_false, Option.some.injEq, Option.bind_some, Nat.reduceLeDiff, bnd_ok, bnd_bad, toS_ok, toS_bad, opt_some, opt_none, vOut_fz, vOut_ow, varF_ap, cF_ap, op2F_ap, op2K_ap, op2K2_ap, op1F_ap, op1K_ap, nilF_ap, consF_ap, consK_ap, consK2_ap, tupF_ap, tupK_ap, lstM_ap, lstK_ap, slget_fz, slget_ow, frzF_ap, frzK_ap, fzM_ap, fzK_ap, cbF_ap, cbK_ap, asB_bl, testF_ap, testK_ap, andT_ap, andTK_ap, orT_ap, orTK_ap, notT_ap, notTK_ap, andV_ap, andVK_ap, orV_ap, orVK_ap, notV_ap, notVK_ap, ifE_ap, ifEK_ap, chainF_ap, chainK_ap, chainK3_ap, chainK2_cmp, thn_nx, thn_rt, thn_bad, seqF_ap, ifS_ap, ifSK_ap, retF_ap, retK_ap, retN_ap, nxF_ap, neverF_ap, dropF_ap, dropK_ap, gnF_ap, gnilF_ap, gconsF_ap, gtupF_ap, optS_some, asgF_ap, asgK_ap, setM_ap, setK_ap, parF_ap, parK_ap, parK2_ap, callO_ret, callF_ap, callK_ap, fin_nx, fin_rt, oAt_ow, ownAt_ap, callMR_ret, callMK2_some, callMK_ap, callM0_some, callMF_ap, finM_nx, finM_rt, oL_ow, ownL_ap, appK2_some, appK_ap, app0_some, appF_ap, pop2_some, pop0_some, popF_ap, setI3_some, setI2_some, setIK2_ap, setI1_some, setIK_ap, setIF_ap, lkAt_fz, lkAt_ow, lookAt_ap, ixP2_ap, ixPK_ap, ixP0_some, ixPF_ap, scOut_some, isSc_bl, isSc_int, opPLK_ap, opPL0_some, opPLF_ap, opPRK_ap, opPRF_ap, nilMs_ap, consMs_ap, consMK_ap, consMK2_ap, par3F_ap, par3K_ap, dinP2_ap, dinP2_t, dinPK_ap, dinPF_ap, toKey_tup, toKeys_tup, toKey_int, dnewM_ap, done1M_ap, done1K_ap, done1K2_ap, dputO_some, dputK2_ap, dput1_some, dputK_ap, dputF_ap, itemsD_lst, itemsD_tup, itemsD_str, itF_ap, itK_ap, enF_ap, enK_lst, enK_tup, enK_str, rng1F_ap, rng2F_ap, rng2K_ap, starK2_ap, starF_ap, starK_lst, starK_tup, starK_str, forS_ap, forK_ap, lcM_ap, lcK_ap, mkL_ap, tYesF_ap, wipeE_nil, wipeE_cons, addD_int, subD_int, negD_int, cmpD_int, intD_int, intD_bl, tupleD_lst, tupleD_tup, listD_tup, eqD_int, neD_int, lenA_lst, lenA_tup, lenA_scr, lenD_lst, isiF_ap, isoF_ap, fldF_ap, fldK_one, joinF_ap, joinK_ap, joinK2_lst, makeR_ret, makeM_ap, makeK_ap, noPF_ap, partF_ap, partK_ap, slF_ap, slK_ap, slK2_ap, slK3_ap, bools_map, allD_rep, sortKF_ap, sortKK_ap, isi2F_ap, propF_ap, propK_ap, min2D_ap, max2D_ap, absD_ap, rg1F_ap, rg1K_ap, rg2F_ap, rg2K_ap, rg2K2_ap, tupRgF_ap, lstRgM_ap, lc2M_ap, lc2K_ap, dnewTM_ap, done1TM_ap, done1TK_ap, done1TK2_ap, listP0_ap, listPF_ap, dgetF_ap, dgetP2_ap, dgetPK_ap, dgetP0_ap, dgetPF_ap, starRgF_ap, starRgK2_ap, remO_ap, remK_ap, rem0_ap, remF_ap, listM_ap, listK_ap, ownL1_ap, extK2_some, extK_lst, ext0_some, extF_ap, forO0_some, F_led_cells, B_led_cells, x0, x1, e]
  rfl
def cut1 (t : Tb) (c : List Nat) : Tb := t.set (c.headD 0) ((t.getD (c.headD 0) []).set (c.tail.headD 0) 46)
def cutT (t : Tb) (C : List (List Nat)) : Tb := C.foldl cut1 t
def CIn (t : Tb) (c : List Nat) : Prop := ∃ i j, i < t.length ∧ j < wd t ∧ c = [i, j]
theorem cut1_len (t : Tb) (c : List Nat) : (cut1 t c).length = t.length := by simp [cut1]
theorem set_rows {t : Tb} (ok : BOk t) {i : Nat} {r : List Nat} (hr : r.length = wd t) (hs : ∀ c ∈ r, isSg c) : BOk (t.set i r) ∧ wd (t.set i r) = wd t := by
  have hl : (t.set i r).length = t.length := by simp
  have hall : ∀ x ∈ t.set i r, x.length = wd t := fun x hx => by
    rcases List.mem_or_eq_of_mem_set hx with h | h
    · exact ok.sq x h
    · rw [h]; exact hr
  have hw : wd (t.set i r) = wd t := by
    have h1 := ok.h1
    cases e : t.set i r with
    | nil => rw [e] at hl; simp at hl; omega
    | cons x l => exact hall x (by rw [e]; simp)
  refine ⟨⟨by rw [hl]; exact ok.h1, by rw [hl]; exact ok.h5, by rw [hw]; exact ok.w1, by rw [hw]; exact ok.w5, fun x hx => by rw [hw]; exact hall x hx, fun x hx => ?_⟩, hw⟩
  rcases List.mem_or_eq_of_mem_set hx with h | h
  · exact ok.sg x h
  · rw [h]; exact hs
theorem cut1_ok {t : Tb} (ok : BOk t) {c : List Nat} (hc : CIn t c) : BOk (cut1 t c) ∧ wd (cut1 t c) = wd t := by
  obtain ⟨i, j, hi, hj, rfl⟩ := hc
  refine set_rows ok (by simpa using row_len ok hi) fun x hx => ?_
  rcases List.mem_or_eq_of_mem_set hx with h | h
  · exact ok.sg _ (row_mem hi) x h
  · exact .inl h
theorem cutT_ok : ∀ {C : List (List Nat)} {t : Tb}, BOk t → (∀ c ∈ C, CIn t c) → BOk (cutT t C) ∧ wd (cutT t C) = wd t ∧ (cutT t C).length = t.length
  | [], t, ok, _ => ⟨ok, rfl, rfl⟩
  | c :: C, t, ok, h => by
    obtain ⟨a1, a2⟩ := cut1_ok ok (h c (by simp))
    obtain ⟨b1, b2, b3⟩ := cutT_ok (C := C) a1 fun x hx => by
      obtain ⟨i, j, hi, hj, e⟩ := h x (by simp [hx])
      exact ⟨i, j, by rw [cut1_len]; exact hi, by rw [a2]; exact hj, e⟩
    exact ⟨b1, b2.trans a2, b3.trans (cut1_len t c)⟩
theorem cutT_thr {C : List (List Nat)} {t : Tb} (ok : BOk t) (h : ∀ c ∈ C, CIn t c) : thr (cutT t C) = thr t := by
  obtain ⟨-, h2, h3⟩ := cutT_ok ok h
  simp only [thr, h2, h3]
def rowsG (t : Tb) : List (List D) := t.map fun r => r.map sgD
theorem ixN_nat {n i : Nat} (h : i < n) : ixN n (i : Int) = some i := by
  unfold ixN
  rw [if_pos (by omega), if_pos (by omega)]; simp
theorem nput_cut {t : Tb} (ok : BOk t) {c : List Nat} (hc : CIn t c) : nputD (.str ".") (rowsG t) (lotD c) = some (rowsG (cut1 t c)) := by
  obtain ⟨i, j, hi, hj, rfl⟩ := hc
  have hl := row_len ok hi
  show (ixN (rowsG t).length (i : Int)).bind _ = _
  have e1 : ixN (rowsG t).length (i : Int) = some i := ixN_nat (by simpa [rowsG] using hi)
  have e2 : (rowsG t)[i]? = some ((t.getD i []).map sgD) := by
    rw [rowsG, List.getElem?_map, List.getElem?_eq_getElem hi, List.getD_eq_getElem?_getD, List.getElem?_eq_getElem hi]; rfl
  have e3 : ixN ((t.getD i []).map sgD).length (j : Int) = some j := ixN_nat (by rw [List.length_map, hl]; exact hj)
  rw [e1, Option.bind_some, e2, Option.bind_some, e3, Option.bind_some]
  congr 1
  simp only [rowsG, cut1, List.headD_cons, List.tail_cons, List.map_set]
  rw [show sgD 46 = D.str "." from by rw [str_dot]]
theorem nputs_cut : ∀ {C : List (List Nat)} {t : Tb}, BOk t → (∀ c ∈ C, CIn t c) → nputsD (.str ".") (C.map lotD) (rowsG t) = some (rowsG (cutT t C))
  | [], t, _, _ => rfl
  | c :: C, t, ok, h => by
    obtain ⟨a1, a2⟩ := cut1_ok ok (h c (by simp))
    rw [List.map_cons, nputsD, nput_cut ok (h c (by simp)), Option.bind_some]
    exact nputs_cut a1 fun x hx => by
      obtain ⟨i, j, hi, hj, e⟩ := h x (by simp [hx])
      exact ⟨i, j, by rw [cut1_len]; exact hi, by rw [a2]; exact hj, e⟩
theorem rows_cls : ∀ {t : Tb}, (∀ r ∈ t, r.length ≤ 100) → rowsD (t.map lnD) = some (rowsG t)
  | [], _ => rfl
  | r :: t, h => by
    have h1 := h r (by simp)
    have h2 := rows_cls (t := t) fun x hx => h x (by simp [hx])
    show (if (⟨r.toArray⟩ : Str).cps.size ≤ 100000 then _ else _) = _
    have hs : (⟨r.toArray⟩ : Str).cps.size ≤ 100000 := by simp; omega
    rw [if_pos hs, h2, Option.map_some, signs_ln]; rfl
theorem rows_len {t : Tb} (ok : BOk t) : ∀ r ∈ t, r.length ≤ 100 := fun r hr => by
  have := ok.sq r hr
  have := ok.w5
  omega
theorem nest_cut {t : Tb} (ok : BOk t) {C : List (List Nat)} (h : ∀ c ∈ C, CIn t c) {fi : Env → Out (List D)} {d : D} (hi : ∀ s, fi [.fz d, s, .no, .no, .no, .no] = .ok (t.map lnD) [.fz d, s, .no, .no, .no, .no]) :
    nestS 2 5 3 4 fi (itF (varF 1)) (.str ".") [.fz d, .fz (ordD C), .no, .no, .no, .no] = .nx [.fz d, .fz (ordD C), .ow (.lst ((rowsG (cutT t C)).map D.lst)), .no, .no, .no] := by
  have h5 := ok.h5
  exact nest_ap (hi _) ⟨by simp, by simp, by simp, by simp, by simp; omega⟩ (rows_cls (rows_len ok)) (ls := C.map lotD) (ε2 := [.fz d, .fz (ordD C), .no, .no, .no, .no]) rfl (nputs_cut ok h)
theorem join_rows {t : Tb} (ok : BOk t) {e0 e1 : Sl} {ds : D} : lcL [5] (gnF 5) tYesF (joinF (cF (.str "")) (varF 5)) ((rowsG t).map D.lst) [] [e0, e1, .fz ds, .no, .no, .no] = .ok (t.map lnD) [e0, e1, .fz ds, .no, .no, .no] := by
  have h5 := ok.h5
  have q : (rowsG t).map D.lst = t.map fun r => D.lst (r.map sgD) := by simp [rowsG]
  rw [q]
  refine lc_mapY (vs := [5]) (gf := gnF 5) (ε := [e0, e1, .fz ds, .no, .no, .no]) (fun r => D.lst (r.map sgD)) lnD t (by omega) fun r hr => ⟨[e0, e1, .fz ds, .no, .no, .fz (.lst (r.map sgD))], [e0, e1, .fz ds, .no, .no, .fz (.lst (r.map sgD))], rfl, rfl, ?_⟩
  have := join_sg (cs := r) (rows_len ok r hr)
  simp -implicitDefEqProofs only [runF, runM, envOf, envM, List.map_cons, List.map_nil, List.length_cons, List.length_nil, List.cons_append, List.nil_append, List.replicate, List.getElem?_cons_succ, List.getElem?_cons_zero, List.set_cons_succ, List.set_cons_zero, if_true, Bool.false_eq_true, if_false, Nat.reduceAdd, Nat.reduceSub, Nat.zero_add, Nat.zero_le, Bool.not_true, Bool.not_false, Option.some.injEq, Option.bind_some, Nat.reduceLeDiff, bnd_ok, bnd_bad, toS_ok, toS_bad, opt_some, opt_none, vOut_fz, vOut_ow, varF_ap, cF_ap, op2F_ap, op2K_ap, op2K2_ap, op1F_ap, op1K_ap, nilF_ap, consF_ap, consK_ap, consK2_ap, tupF_ap, tupK_ap, lstM_ap, lstK_ap, slget_fz, slget_ow, frzF_ap, frzK_ap, fzM_ap, fzK_ap, cbF_ap, cbK_ap, asB_bl, testF_ap, testK_ap, andT_ap, andTK_ap, orT_ap, orTK_ap, notT_ap, notTK_ap, andV_ap, andVK_ap, orV_ap, orVK_ap, notV_ap, notVK_ap, ifE_ap, ifEK_ap, chainF_ap, chainK_ap, chainK3_ap, chainK2_cmp, thn_nx, thn_rt, thn_bad, seqF_ap, ifS_ap, ifSK_ap, retF_ap, retK_ap, retN_ap, nxF_ap, neverF_ap, dropF_ap, dropK_ap, gnF_ap, gnilF_ap, gconsF_ap, gtupF_ap, optS_some, asgF_ap, asgK_ap, setM_ap, setK_ap, parF_ap, parK_ap, parK2_ap, callO_ret, callF_ap, callK_ap, fin_nx, fin_rt, oAt_ow, ownAt_ap, callMR_ret, callMK2_some, callMK_ap, callM0_some, callMF_ap, finM_nx, finM_rt, oL_ow, ownL_ap, appK2_some, appK_ap, app0_some, appF_ap, pop2_some, pop0_some, popF_ap, setI3_some, setI2_some, setIK2_ap, setI1_some, setIK_ap, setIF_ap, lkAt_fz, lkAt_ow, lookAt_ap, ixP2_ap, ixPK_ap, ixP0_some, ixPF_ap, scOut_some, isSc_bl, isSc_int, opPLK_ap, opPL0_some, opPLF_ap, opPRK_ap, opPRF_ap, nilMs_ap, consMs_ap, consMK_ap, consMK2_ap, par3F_ap, par3K_ap, dinP2_ap, dinP2_t, dinPK_ap, dinPF_ap, toKey_tup, toKeys_tup, toKey_int, dnewM_ap, done1M_ap, done1K_ap, done1K2_ap, dputO_some, dputK2_ap, dput1_some, dputK_ap, dputF_ap, itemsD_lst, itemsD_tup, itemsD_str, itF_ap, itK_ap, enF_ap, enK_lst, enK_tup, enK_str, rng1F_ap, rng2F_ap, rng2K_ap, starK2_ap, starF_ap, starK_lst, starK_tup, starK_str, forS_ap, forK_ap, lcM_ap, lcK_ap, mkL_ap, tYesF_ap, wipeE_nil, wipeE_cons, addD_int, subD_int, negD_int, cmpD_int, intD_int, intD_bl, tupleD_lst, tupleD_tup, listD_tup, eqD_int, neD_int, lenA_lst, lenA_tup, lenA_scr, lenD_lst, isiF_ap, isoF_ap, fldF_ap, fldK_one, joinF_ap, joinK_ap, joinK2_lst, makeR_ret, makeM_ap, makeK_ap, noPF_ap, partF_ap, partK_ap, slF_ap, slK_ap, slK2_ap, slK3_ap, bools_map, allD_rep, sortKF_ap, sortKK_ap, isi2F_ap, propF_ap, propK_ap, min2D_ap, max2D_ap, absD_ap, rg1F_ap, rg1K_ap, rg2F_ap, rg2K_ap, rg2K2_ap, tupRgF_ap, lstRgM_ap, lc2M_ap, lc2K_ap, dnewTM_ap, done1TM_ap, done1TK_ap, done1TK2_ap, listP0_ap, listPF_ap, dgetF_ap, dgetP2_ap, dgetPK_ap, dgetP0_ap, dgetPF_ap, starRgF_ap, starRgK2_ap, remO_ap, remK_ap, rem0_ap, remF_ap, listM_ap, listK_ap, ownL1_ap, extK2_some, extK_lst, ext0_some, extF_ap, forO0_some, this]
theorem F__law_without_eq {t : Tb} (ok : BOk t) {C : List (List Nat)} (h : ∀ c ∈ C, CIn t c) : F__law_without [clsD t, ordD C] = .ret (clsD (cutT t C)) := by
  have x1 := nest_cut ok h (fi := itF (varF 0)) (d := clsD t) fun s => rfl
  have ok' := (cutT_ok ok h).1
  have x2 : itemsD (.lst ((rowsG (cutT t C)).map D.lst)) = some ((rowsG (cutT t C)).map D.lst) := rfl
  have x3 := join_rows ok' (e0 := .fz (clsD t)) (e1 := .fz (ordD C)) (ds := .lst ((rowsG (cutT t C)).map D.lst))
  have x4 : D.tup ((cutT t C).map lnD) = clsD (cutT t C) := rfl
  simp -implicitDefEqProofs only [runF, runM, envOf, envM, List.map_cons, List.map_nil, List.length_cons, List.length_nil, List.cons_append, List.nil_append, List.replicate, List.getElem?_cons_succ, List.getElem?_cons_zero, List.set_cons_succ, List.set_cons_zero, if_true, Bool.false_eq_true, if_false, Nat.reduceAdd, Nat.reduceSub, Nat.zero_add, Nat.zero_le, Bool.not_true, Bool.not_false, Option.some.injEq, Option.bind_some, Nat.reduceLeDiff, bnd_ok, bnd_bad, toS_ok, toS_bad, opt_some, opt_none, vOut_fz, vOut_ow, varF_ap, cF_ap, op2F_ap, op2K_ap, op2K2_ap, op1F_ap, op1K_ap, nilF_ap, consF_ap, consK_ap, consK2_ap, tupF_ap, tupK_ap, lstM_ap, lstK_ap, slget_fz, slget_ow, frzF_ap, frzK_ap, fzM_ap, fzK_ap, cbF_ap, cbK_ap, asB_bl, testF_ap, testK_ap, andT_ap, andTK_ap, orT_ap, orTK_ap, notT_ap, notTK_ap, andV_ap, andVK_ap, orV_ap, orVK_ap, notV_ap, notVK_ap, ifE_ap, ifEK_ap, chainF_ap, chainK_ap, chainK3_ap, chainK2_cmp, thn_nx, thn_rt, thn_bad, seqF_ap, ifS_ap, ifSK_ap, retF_ap, retK_ap, retN_ap, nxF_ap, neverF_ap, dropF_ap, dropK_ap, gnF_ap, gnilF_ap, gconsF_ap, gtupF_ap, optS_some, asgF_ap, asgK_ap, setM_ap, setK_ap, parF_ap, parK_ap, parK2_ap, callO_ret, callF_ap, callK_ap, fin_nx, fin_rt, oAt_ow, ownAt_ap, callMR_ret, callMK2_some, callMK_ap, callM0_some, callMF_ap, finM_nx, finM_rt, oL_ow, ownL_ap, appK2_some, appK_ap, app0_some, appF_ap, pop2_some, pop0_some, popF_ap, setI3_some, setI2_some, setIK2_ap, setI1_some, setIK_ap, setIF_ap, lkAt_fz, lkAt_ow, lookAt_ap, ixP2_ap, ixPK_ap, ixP0_some, ixPF_ap, scOut_some, isSc_bl, isSc_int, opPLK_ap, opPL0_some, opPLF_ap, opPRK_ap, opPRF_ap, nilMs_ap, consMs_ap, consMK_ap, consMK2_ap, par3F_ap, par3K_ap, dinP2_ap, dinP2_t, dinPK_ap, dinPF_ap, toKey_tup, toKeys_tup, toKey_int, dnewM_ap, done1M_ap, done1K_ap, done1K2_ap, dputO_some, dputK2_ap, dput1_some, dputK_ap, dputF_ap, itemsD_lst, itemsD_tup, itemsD_str, itF_ap, itK_ap, enF_ap, enK_lst, enK_tup, enK_str, rng1F_ap, rng2F_ap, rng2K_ap, starK2_ap, starF_ap, starK_lst, starK_tup, starK_str, forS_ap, forK_ap, lcM_ap, lcK_ap, mkL_ap, tYesF_ap, wipeE_nil, wipeE_cons, addD_int, subD_int, negD_int, cmpD_int, intD_int, intD_bl, tupleD_lst, tupleD_tup, listD_tup, eqD_int, neD_int, lenA_lst, lenA_tup, lenA_scr, lenD_lst, isiF_ap, isoF_ap, fldF_ap, fldK_one, joinF_ap, joinK_ap, joinK2_lst, makeR_ret, makeM_ap, makeK_ap, noPF_ap, partF_ap, partK_ap, slF_ap, slK_ap, slK2_ap, slK3_ap, bools_map, allD_rep, sortKF_ap, sortKK_ap, isi2F_ap, propF_ap, propK_ap, min2D_ap, max2D_ap, absD_ap, rg1F_ap, rg1K_ap, rg2F_ap, rg2K_ap, rg2K2_ap, tupRgF_ap, lstRgM_ap, lc2M_ap, lc2K_ap, dnewTM_ap, done1TM_ap, done1TK_ap, done1TK2_ap, listP0_ap, listPF_ap, dgetF_ap, dgetP2_ap, dgetPK_ap, dgetP0_ap, dgetPF_ap, starRgF_ap, starRgK2_ap, remO_ap, remK_ap, rem0_ap, remF_ap, listM_ap, listK_ap, ownL1_ap, extK2_some, extK_lst, ext0_some, extF_ap, forO0_some, F__law_without, B__law_without, x1, x2, x3, x4]
theorem F_without_eq {t : Tb} (ok : BOk t) {C : List (List Nat)} (h : ∀ c ∈ C, CIn t c) : F_without [bdD t, ordD C] = .ret (bdD (cutT t C)) := by
  have x0 := prop_cells t
  have x1 := nest_cut ok h (fi := itF (propF (varF 0) 0 F_Board_cells)) (d := bdD t) fun s => by
    have y : itemsD (clsD t) = some (t.map lnD) := rfl
    simp -implicitDefEqProofs only [runF, runM, envOf, envM, List.map_cons, List.map_nil, List.length_cons, List.length_nil, List.cons_append, List.nil_append, List.replicate, List.getElem?_cons_succ, List.getElem?_cons_zero, List.set_cons_succ, List.set_cons_zero, if_true, Bool.false_eq_true, if_false, Nat.reduceAdd, Nat.reduceSub, Nat.zero_add, Nat.zero_le, Bool.not_true, Bool.not_false, Option.some.injEq, Option.bind_some, Nat.reduceLeDiff, bnd_ok, bnd_bad, toS_ok, toS_bad, opt_some, opt_none, vOut_fz, vOut_ow, varF_ap, cF_ap, op2F_ap, op2K_ap, op2K2_ap, op1F_ap, op1K_ap, nilF_ap, consF_ap, consK_ap, consK2_ap, tupF_ap, tupK_ap, lstM_ap, lstK_ap, slget_fz, slget_ow, frzF_ap, frzK_ap, fzM_ap, fzK_ap, cbF_ap, cbK_ap, asB_bl, testF_ap, testK_ap, andT_ap, andTK_ap, orT_ap, orTK_ap, notT_ap, notTK_ap, andV_ap, andVK_ap, orV_ap, orVK_ap, notV_ap, notVK_ap, ifE_ap, ifEK_ap, chainF_ap, chainK_ap, chainK3_ap, chainK2_cmp, thn_nx, thn_rt, thn_bad, seqF_ap, ifS_ap, ifSK_ap, retF_ap, retK_ap, retN_ap, nxF_ap, neverF_ap, dropF_ap, dropK_ap, gnF_ap, gnilF_ap, gconsF_ap, gtupF_ap, optS_some, asgF_ap, asgK_ap, setM_ap, setK_ap, parF_ap, parK_ap, parK2_ap, callO_ret, callF_ap, callK_ap, fin_nx, fin_rt, oAt_ow, ownAt_ap, callMR_ret, callMK2_some, callMK_ap, callM0_some, callMF_ap, finM_nx, finM_rt, oL_ow, ownL_ap, appK2_some, appK_ap, app0_some, appF_ap, pop2_some, pop0_some, popF_ap, setI3_some, setI2_some, setIK2_ap, setI1_some, setIK_ap, setIF_ap, lkAt_fz, lkAt_ow, lookAt_ap, ixP2_ap, ixPK_ap, ixP0_some, ixPF_ap, scOut_some, isSc_bl, isSc_int, opPLK_ap, opPL0_some, opPLF_ap, opPRK_ap, opPRF_ap, nilMs_ap, consMs_ap, consMK_ap, consMK2_ap, par3F_ap, par3K_ap, dinP2_ap, dinP2_t, dinPK_ap, dinPF_ap, toKey_tup, toKeys_tup, toKey_int, dnewM_ap, done1M_ap, done1K_ap, done1K2_ap, dputO_some, dputK2_ap, dput1_some, dputK_ap, dputF_ap, itemsD_lst, itemsD_tup, itemsD_str, itF_ap, itK_ap, enF_ap, enK_lst, enK_tup, enK_str, rng1F_ap, rng2F_ap, rng2K_ap, starK2_ap, starF_ap, starK_lst, starK_tup, starK_str, forS_ap, forK_ap, lcM_ap, lcK_ap, mkL_ap, tYesF_ap, wipeE_nil, wipeE_cons, addD_int, subD_int, negD_int, cmpD_int, intD_int, intD_bl, tupleD_lst, tupleD_tup, listD_tup, eqD_int, neD_int, lenA_lst, lenA_tup, lenA_scr, lenD_lst, isiF_ap, isoF_ap, fldF_ap, fldK_one, joinF_ap, joinK_ap, joinK2_lst, makeR_ret, makeM_ap, makeK_ap, noPF_ap, partF_ap, partK_ap, slF_ap, slK_ap, slK2_ap, slK3_ap, bools_map, allD_rep, sortKF_ap, sortKK_ap, isi2F_ap, propF_ap, propK_ap, min2D_ap, max2D_ap, absD_ap, rg1F_ap, rg1K_ap, rg2F_ap, rg2K_ap, rg2K2_ap, tupRgF_ap, lstRgM_ap, lc2M_ap, lc2K_ap, dnewTM_ap, done1TM_ap, done1TK_ap, done1TK2_ap, listP0_ap, listPF_ap, dgetF_ap, dgetP2_ap, dgetPK_ap, dgetP0_ap, dgetPF_ap, starRgF_ap, starRgK2_ap, remO_ap, remK_ap, rem0_ap, remF_ap, listM_ap, listK_ap, ownL1_ap, extK2_some, extK_lst, ext0_some, extF_ap, forO0_some, x0, y]
  have ok' := (cutT_ok ok h).1
  have x2 : itemsD (.lst ((rowsG (cutT t C)).map D.lst)) = some ((rowsG (cutT t C)).map D.lst) := rfl
  have x3 := join_rows ok' (e0 := .fz (bdD t)) (e1 := .fz (ordD C)) (ds := .lst ((rowsG (cutT t C)).map D.lst))
  have x4 : D.tup ((cutT t C).map lnD) = clsD (cutT t C) := rfl
  have x5 := F_init_ok ok'
  simp -implicitDefEqProofs only [runF, runM, envOf, envM, List.map_cons, List.map_nil, List.length_cons, List.length_nil, List.cons_append, List.nil_append, List.replicate, List.getElem?_cons_succ, List.getElem?_cons_zero, List.set_cons_succ, List.set_cons_zero, if_true, Bool.false_eq_true, if_false, Nat.reduceAdd, Nat.reduceSub, Nat.zero_add, Nat.zero_le, Bool.not_true, Bool.not_false, Option.some.injEq, Option.bind_some, Nat.reduceLeDiff, bnd_ok, bnd_bad, toS_ok, toS_bad, opt_some, opt_none, vOut_fz, vOut_ow, varF_ap, cF_ap, op2F_ap, op2K_ap, op2K2_ap, op1F_ap, op1K_ap, nilF_ap, consF_ap, consK_ap, consK2_ap, tupF_ap, tupK_ap, lstM_ap, lstK_ap, slget_fz, slget_ow, frzF_ap, frzK_ap, fzM_ap, fzK_ap, cbF_ap, cbK_ap, asB_bl, testF_ap, testK_ap, andT_ap, andTK_ap, orT_ap, orTK_ap, notT_ap, notTK_ap, andV_ap, andVK_ap, orV_ap, orVK_ap, notV_ap, notVK_ap, ifE_ap, ifEK_ap, chainF_ap, chainK_ap, chainK3_ap, chainK2_cmp, thn_nx, thn_rt, thn_bad, seqF_ap, ifS_ap, ifSK_ap, retF_ap, retK_ap, retN_ap, nxF_ap, neverF_ap, dropF_ap, dropK_ap, gnF_ap, gnilF_ap, gconsF_ap, gtupF_ap, optS_some, asgF_ap, asgK_ap, setM_ap, setK_ap, parF_ap, parK_ap, parK2_ap, callO_ret, callF_ap, callK_ap, fin_nx, fin_rt, oAt_ow, ownAt_ap, callMR_ret, callMK2_some, callMK_ap, callM0_some, callMF_ap, finM_nx, finM_rt, oL_ow, ownL_ap, appK2_some, appK_ap, app0_some, appF_ap, pop2_some, pop0_some, popF_ap, setI3_some, setI2_some, setIK2_ap, setI1_some, setIK_ap, setIF_ap, lkAt_fz, lkAt_ow, lookAt_ap, ixP2_ap, ixPK_ap, ixP0_some, ixPF_ap, scOut_some, isSc_bl, isSc_int, opPLK_ap, opPL0_some, opPLF_ap, opPRK_ap, opPRF_ap, nilMs_ap, consMs_ap, consMK_ap, consMK2_ap, par3F_ap, par3K_ap, dinP2_ap, dinP2_t, dinPK_ap, dinPF_ap, toKey_tup, toKeys_tup, toKey_int, dnewM_ap, done1M_ap, done1K_ap, done1K2_ap, dputO_some, dputK2_ap, dput1_some, dputK_ap, dputF_ap, itemsD_lst, itemsD_tup, itemsD_str, itF_ap, itK_ap, enF_ap, enK_lst, enK_tup, enK_str, rng1F_ap, rng2F_ap, rng2K_ap, starK2_ap, starF_ap, starK_lst, starK_tup, starK_str, forS_ap, forK_ap, lcM_ap, lcK_ap, mkL_ap, tYesF_ap, wipeE_nil, wipeE_cons, addD_int, subD_int, negD_int, cmpD_int, intD_int, intD_bl, tupleD_lst, tupleD_tup, listD_tup, eqD_int, neD_int, lenA_lst, lenA_tup, lenA_scr, lenD_lst, isiF_ap, isoF_ap, fldF_ap, fldK_one, joinF_ap, joinK_ap, joinK2_lst, makeR_ret, makeM_ap, makeK_ap, noPF_ap, partF_ap, partK_ap, slF_ap, slK_ap, slK2_ap, slK3_ap, bools_map, allD_rep, sortKF_ap, sortKK_ap, isi2F_ap, propF_ap, propK_ap, min2D_ap, max2D_ap, absD_ap, rg1F_ap, rg1K_ap, rg2F_ap, rg2K_ap, rg2K2_ap, tupRgF_ap, lstRgM_ap, lc2M_ap, lc2K_ap, dnewTM_ap, done1TM_ap, done1TK_ap, done1TK2_ap, listP0_ap, listPF_ap, dgetF_ap, dgetP2_ap, dgetPK_ap, dgetP0_ap, dgetPF_ap, starRgF_ap, starRgK2_ap, remO_ap, remK_ap, rem0_ap, remF_ap, listM_ap, listK_ap, ownL1_ap, extK2_some, extK_lst, ext0_some, extF_ap, forO0_some, F_without, B_without, x1, x2, x3, x4, x5]
structure Brk (t : Tb) (C : List (List Nat)) : Prop where
  mem : ∀ c ∈ C, c ∈ ledL t
  asc : C.Pairwise fun a b => lotLt a b = true
theorem Brk.inn {t : Tb} {C : List (List Nat)} (h : Brk t C) : ∀ c ∈ C, CIn t c := fun c hc => by
  obtain ⟨i, j, hi, hj, -, e⟩ := mem_led.1 (h.mem c hc)
  exact ⟨i, j, hi, hj, e⟩
theorem F_is_cell_eq (i j : Nat) : F_is_cell [lotD [i, j]] = .ret (.bl true) := by
  have x1 : itemsD (lotD [i, j]) = some ([i, j].map nD) := rfl
  have x2 : lcL [1] (gnF 1) tYesF (andV (isiF (varF 1) "int") (notV (isiF (varF 1) "bool"))) ([i, j].map nD) [] [.fz (lotD [i, j]), .no] = .ok ([i, j].map fun _ => D.bl true) [.fz (lotD [i, j]), .no] := by
    refine lc_mapY nD _ [i, j] (by simp) fun x hx => ⟨[.fz (lotD [i, j]), .fz (nD x)], [.fz (lotD [i, j]), .fz (nD x)], rfl, rfl, ?_⟩
    have y1 : ∀ ε : Env, isiK "int" (nD x) ε = .ok (.bl true) ε := fun _ => rfl
    have y2 : ∀ ε : Env, isiK "bool" (nD x) ε = .ok (.bl false) ε := fun _ => rfl
    simp -implicitDefEqProofs only [runF, runM, envOf, envM, List.map_cons, List.map_nil, List.length_cons, List.length_nil, List.cons_append, List.nil_append, List.replicate, List.getElem?_cons_succ, List.getElem?_cons_zero, List.set_cons_succ, List.set_cons_zero, if_true, Bool.false_eq_true, if_false, Nat.reduceAdd, Nat.reduceSub, Nat.zero_add, Nat.zero_le, Bool.not_true, Bool.not_false, Option.some.injEq, Option.bind_some, Nat.reduceLeDiff, bnd_ok, bnd_bad, toS_ok, toS_bad, opt_some, opt_none, vOut_fz, vOut_ow, varF_ap, cF_ap, op2F_ap, op2K_ap, op2K2_ap, op1F_ap, op1K_ap, nilF_ap, consF_ap, consK_ap, consK2_ap, tupF_ap, tupK_ap, lstM_ap, lstK_ap, slget_fz, slget_ow, frzF_ap, frzK_ap, fzM_ap, fzK_ap, cbF_ap, cbK_ap, asB_bl, testF_ap, testK_ap, andT_ap, andTK_ap, orT_ap, orTK_ap, notT_ap, notTK_ap, andV_ap, andVK_ap, orV_ap, orVK_ap, notV_ap, notVK_ap, ifE_ap, ifEK_ap, chainF_ap, chainK_ap, chainK3_ap, chainK2_cmp, thn_nx, thn_rt, thn_bad, seqF_ap, ifS_ap, ifSK_ap, retF_ap, retK_ap, retN_ap, nxF_ap, neverF_ap, dropF_ap, dropK_ap, gnF_ap, gnilF_ap, gconsF_ap, gtupF_ap, optS_some, asgF_ap, asgK_ap, setM_ap, setK_ap, parF_ap, parK_ap, parK2_ap, callO_ret, callF_ap, callK_ap, fin_nx, fin_rt, oAt_ow, ownAt_ap, callMR_ret, callMK2_some, callMK_ap, callM0_some, callMF_ap, finM_nx, finM_rt, oL_ow, ownL_ap, appK2_some, appK_ap, app0_some, appF_ap, pop2_some, pop0_some, popF_ap, setI3_some, setI2_some, setIK2_ap, setI1_some, setIK_ap, setIF_ap, lkAt_fz, lkAt_ow, lookAt_ap, ixP2_ap, ixPK_ap, ixP0_some, ixPF_ap, scOut_some, isSc_bl, isSc_int, opPLK_ap, opPL0_some, opPLF_ap, opPRK_ap, opPRF_ap, nilMs_ap, consMs_ap, consMK_ap, consMK2_ap, par3F_ap, par3K_ap, dinP2_ap, dinP2_t, dinPK_ap, dinPF_ap, toKey_tup, toKeys_tup, toKey_int, dnewM_ap, done1M_ap, done1K_ap, done1K2_ap, dputO_some, dputK2_ap, dput1_some, dputK_ap, dputF_ap, itemsD_lst, itemsD_tup, itemsD_str, itF_ap, itK_ap, enF_ap, enK_lst, enK_tup, enK_str, rng1F_ap, rng2F_ap, rng2K_ap, starK2_ap, starF_ap, starK_lst, starK_tup, starK_str, forS_ap, forK_ap, lcM_ap, lcK_ap, mkL_ap, tYesF_ap, wipeE_nil, wipeE_cons, addD_int, subD_int, negD_int, cmpD_int, intD_int, intD_bl, tupleD_lst, tupleD_tup, listD_tup, eqD_int, neD_int, lenA_lst, lenA_tup, lenA_scr, lenD_lst, isiF_ap, isoF_ap, fldF_ap, fldK_one, joinF_ap, joinK_ap, joinK2_lst, makeR_ret, makeM_ap, makeK_ap, noPF_ap, partF_ap, partK_ap, slF_ap, slK_ap, slK2_ap, slK3_ap, bools_map, allD_rep, sortKF_ap, sortKK_ap, isi2F_ap, propF_ap, propK_ap, min2D_ap, max2D_ap, absD_ap, rg1F_ap, rg1K_ap, rg2F_ap, rg2K_ap, rg2K2_ap, tupRgF_ap, lstRgM_ap, lc2M_ap, lc2K_ap, dnewTM_ap, done1TM_ap, done1TK_ap, done1TK2_ap, listP0_ap, listPF_ap, dgetF_ap, dgetP2_ap, dgetPK_ap, dgetP0_ap, dgetPF_ap, starRgF_ap, starRgK2_ap, remO_ap, remK_ap, rem0_ap, remF_ap, listM_ap, listK_ap, ownL1_ap, extK2_some, extK_lst, ext0_some, extF_ap, forO0_some, y1, y2]
  have x3 : ∀ ε : Env, isiK "tuple" (lotD [i, j]) ε = .ok (.bl true) ε := fun _ => rfl
  have x4 : lenA 0 F_Board___len__ [lotD [i, j]] = some (.int 2) := rfl
  have x5 : neD (.int 2) (.int 2) = some (.bl false) := nice_n.neD (by omega) 2 2
  have x6 : allD [.lst ([i, j].map fun _ => D.bl true)] = some (.bl true) := rfl
  simp only [List.map_cons, List.map_nil] at x1 x2 x6
  simp -implicitDefEqProofs only [runF, runM, envOf, envM, List.map_cons, List.map_nil, List.length_cons, List.length_nil, List.cons_append, List.nil_append, List.replicate, List.getElem?_cons_succ, List.getElem?_cons_zero, List.set_cons_succ, List.set_cons_zero, if_true, Bool.false_eq_true, if_false, Nat.reduceAdd, Nat.reduceSub, Nat.zero_add, Nat.zero_le, Bool.not_true, Bool.not_false, Option.some.injEq, Option.bind_some, Nat.reduceLeDiff, bnd_ok, bnd_bad, toS_ok, toS_bad, opt_some, opt_none, vOut_fz, vOut_ow, varF_ap, cF_ap, op2F_ap, op2K_ap, op2K2_ap, op1F_ap, op1K_ap, nilF_ap, consF_ap, consK_ap, consK2_ap, tupF_ap, tupK_ap, lstM_ap, lstK_ap, slget_fz, slget_ow, frzF_ap, frzK_ap, fzM_ap, fzK_ap, cbF_ap, cbK_ap, asB_bl, testF_ap, testK_ap, andT_ap, andTK_ap, orT_ap, orTK_ap, notT_ap, notTK_ap, andV_ap, andVK_ap, orV_ap, orVK_ap, notV_ap, notVK_ap, ifE_ap, ifEK_ap, chainF_ap, chainK_ap, chainK3_ap, chainK2_cmp, thn_nx, thn_rt, thn_bad, seqF_ap, ifS_ap, ifSK_ap, retF_ap, retK_ap, retN_ap, nxF_ap, neverF_ap, dropF_ap, dropK_ap, gnF_ap, gnilF_ap, gconsF_ap, gtupF_ap, optS_some, asgF_ap, asgK_ap, setM_ap, setK_ap, parF_ap, parK_ap, parK2_ap, callO_ret, callF_ap, callK_ap, fin_nx, fin_rt, oAt_ow, ownAt_ap, callMR_ret, callMK2_some, callMK_ap, callM0_some, callMF_ap, finM_nx, finM_rt, oL_ow, ownL_ap, appK2_some, appK_ap, app0_some, appF_ap, pop2_some, pop0_some, popF_ap, setI3_some, setI2_some, setIK2_ap, setI1_some, setIK_ap, setIF_ap, lkAt_fz, lkAt_ow, lookAt_ap, ixP2_ap, ixPK_ap, ixP0_some, ixPF_ap, scOut_some, isSc_bl, isSc_int, opPLK_ap, opPL0_some, opPLF_ap, opPRK_ap, opPRF_ap, nilMs_ap, consMs_ap, consMK_ap, consMK2_ap, par3F_ap, par3K_ap, dinP2_ap, dinP2_t, dinPK_ap, dinPF_ap, toKey_tup, toKeys_tup, toKey_int, dnewM_ap, done1M_ap, done1K_ap, done1K2_ap, dputO_some, dputK2_ap, dput1_some, dputK_ap, dputF_ap, itemsD_lst, itemsD_tup, itemsD_str, itF_ap, itK_ap, enF_ap, enK_lst, enK_tup, enK_str, rng1F_ap, rng2F_ap, rng2K_ap, starK2_ap, starF_ap, starK_lst, starK_tup, starK_str, forS_ap, forK_ap, lcM_ap, lcK_ap, mkL_ap, tYesF_ap, wipeE_nil, wipeE_cons, addD_int, subD_int, negD_int, cmpD_int, intD_int, intD_bl, tupleD_lst, tupleD_tup, listD_tup, eqD_int, neD_int, lenA_lst, lenA_tup, lenA_scr, lenD_lst, isiF_ap, isoF_ap, fldF_ap, fldK_one, joinF_ap, joinK_ap, joinK2_lst, makeR_ret, makeM_ap, makeK_ap, noPF_ap, partF_ap, partK_ap, slF_ap, slK_ap, slK2_ap, slK3_ap, bools_map, allD_rep, sortKF_ap, sortKK_ap, isi2F_ap, propF_ap, propK_ap, min2D_ap, max2D_ap, absD_ap, rg1F_ap, rg1K_ap, rg2F_ap, rg2K_ap, rg2K2_ap, tupRgF_ap, lstRgM_ap, lc2M_ap, lc2K_ap, dnewTM_ap, done1TM_ap, done1TK_ap, done1TK2_ap, listP0_ap, listPF_ap, dgetF_ap, dgetP2_ap, dgetPK_ap, dgetP0_ap, dgetPF_ap, starRgF_ap, starRgK2_ap, remO_ap, remK_ap, rem0_ap, remF_ap, listM_ap, listK_ap, ownL1_ap, extK2_some, extK_lst, ext0_some, extF_ap, forO0_some, F_is_cell, B_is_cell, x3, x4, x5, x1, x2, x6]
theorem le_cells {a b c d : Nat} (h : lotLt [c, d] [a, b] = true) : leTI [(a : Int), (b : Int)] [(c : Int), (d : Int)] = false := by
  simp only [lotLt, decide_eq_true_eq, List.map_cons, List.map_nil, iN] at h
  have h' : (c : Int) < a ∨ ((c : Int) = a ∧ (d : Int) < b) := by
    rcases List.cons_lt_cons_iff.1 h with q | ⟨q1, q2⟩
    · exact .inl q
    · rcases List.cons_lt_cons_iff.1 q2 with q | ⟨_, q⟩
      · exact .inr ⟨q1, q⟩
      · simp at q
  show (if decide ((a : Int) = c) = true then (if decide ((b : Int) = d) = true then decide (2 ≤ 2) else decide ((b : Int) ≤ d)) else decide ((a : Int) ≤ c)) = false
  rcases h' with q | ⟨q1, q2⟩
  · have e1 : decide ((a : Int) = c) = false := decide_eq_false (by omega)
    have e2 : decide ((a : Int) ≤ c) = false := decide_eq_false (by omega)
    rw [e1, e2]; rfl
  · have e1 : decide ((a : Int) = c) = true := decide_eq_true q1.symm
    have e2 : decide ((b : Int) = d) = false := decide_eq_false (by omega)
    have e3 : decide ((b : Int) ≤ d) = false := decide_eq_false (by omega)
    rw [e1, e2, e3]; rfl
theorem ints_cell (i j : Nat) : intsD [nD i, nD j] = some [(i : Int), (j : Int)] := rfl
theorem F_need_break_eq {t : Tb} (ok : BOk t) {C : List (List Nat)} (h : Brk t C) : F_need_break [bdD t, ordD C] = .ret .non := by
  have x0 := F_led_cells_eq ok
  have hlen := led_len ok
  obtain ⟨ε', e, -⟩ := forL (gf := gtupF 2 (gconsF (gnF 3) (gconsF (gnF 4) gnilF))) (F := B_need_break_L1) (fun k => D.tup [nD k, lotD (C.getD k [])]) (List.range' 0 C.length)
    (fun i ε => ∃ s3 s4, ε = [.fz (bdD t), .fz (ordD C), .fz (lotsD (ledL t)), s3, s4]) [.fz (bdD t), .fz (ordD C), .fz (lotsD (ledL t)), .no, .no] ⟨.no, .no, rfl⟩ (by
      rintro k hk ε ⟨s3, s4, rfl⟩
      have hk' : k < C.length := by simpa using hk
      have ei : (List.range' 0 C.length)[k] = k := by simp
      rw [ei]
      refine ⟨[.fz (bdD t), .fz (ordD C), .fz (lotsD (ledL t)), .fz (nD k), .fz (lotD (C.getD k []))], [.fz (bdD t), .fz (ordD C), .fz (lotsD (ledL t)), .fz (nD k), .fz (lotD (C.getD k []))], by simp -implicitDefEqProofs only [runF, runM, envOf, envM, List.map_cons, List.map_nil, List.length_cons, List.length_nil, List.cons_append, List.nil_append, List.replicate, List.getElem?_cons_succ, List.getElem?_cons_zero, List.set_cons_succ, List.set_cons_zero, if_true, Bool.false_eq_true, if_false, Nat.reduceAdd, Nat.reduceSub, Nat.zero_add, Nat.zero_le, Bool.not_true, Bool.not_false, Option.some.injEq, Option.bind_some, Nat.reduceLeDiff, bnd_ok, bnd_bad, toS_ok, toS_bad, opt_some, opt_none, vOut_fz, vOut_ow, varF_ap, cF_ap, op2F_ap, op2K_ap, op2K2_ap, op1F_ap, op1K_ap, nilF_ap, consF_ap, consK_ap, consK2_ap, tupF_ap, tupK_ap, lstM_ap, lstK_ap, slget_fz, slget_ow, frzF_ap, frzK_ap, fzM_ap, fzK_ap, cbF_ap, cbK_ap, asB_bl, testF_ap, testK_ap, andT_ap, andTK_ap, orT_ap, orTK_ap, notT_ap, notTK_ap, andV_ap, andVK_ap, orV_ap, orVK_ap, notV_ap, notVK_ap, ifE_ap, ifEK_ap, chainF_ap, chainK_ap, chainK3_ap, chainK2_cmp, thn_nx, thn_rt, thn_bad, seqF_ap, ifS_ap, ifSK_ap, retF_ap, retK_ap, retN_ap, nxF_ap, neverF_ap, dropF_ap, dropK_ap, gnF_ap, gnilF_ap, gconsF_ap, gtupF_ap, optS_some, asgF_ap, asgK_ap, setM_ap, setK_ap, parF_ap, parK_ap, parK2_ap, callO_ret, callF_ap, callK_ap, fin_nx, fin_rt, oAt_ow, ownAt_ap, callMR_ret, callMK2_some, callMK_ap, callM0_some, callMF_ap, finM_nx, finM_rt, oL_ow, ownL_ap, appK2_some, appK_ap, app0_some, appF_ap, pop2_some, pop0_some, popF_ap, setI3_some, setI2_some, setIK2_ap, setI1_some, setIK_ap, setIF_ap, lkAt_fz, lkAt_ow, lookAt_ap, ixP2_ap, ixPK_ap, ixP0_some, ixPF_ap, scOut_some, isSc_bl, isSc_int, opPLK_ap, opPL0_some, opPLF_ap, opPRK_ap, opPRF_ap, nilMs_ap, consMs_ap, consMK_ap, consMK2_ap, par3F_ap, par3K_ap, dinP2_ap, dinP2_t, dinPK_ap, dinPF_ap, toKey_tup, toKeys_tup, toKey_int, dnewM_ap, done1M_ap, done1K_ap, done1K2_ap, dputO_some, dputK2_ap, dput1_some, dputK_ap, dputF_ap, itemsD_lst, itemsD_tup, itemsD_str, itF_ap, itK_ap, enF_ap, enK_lst, enK_tup, enK_str, rng1F_ap, rng2F_ap, rng2K_ap, starK2_ap, starF_ap, starK_lst, starK_tup, starK_str, forS_ap, forK_ap, lcM_ap, lcK_ap, mkL_ap, tYesF_ap, wipeE_nil, wipeE_cons, addD_int, subD_int, negD_int, cmpD_int, intD_int, intD_bl, tupleD_lst, tupleD_tup, listD_tup, eqD_int, neD_int, lenA_lst, lenA_tup, lenA_scr, lenD_lst, isiF_ap, isoF_ap, fldF_ap, fldK_one, joinF_ap, joinK_ap, joinK2_lst, makeR_ret, makeM_ap, makeK_ap, noPF_ap, partF_ap, partK_ap, slF_ap, slK_ap, slK2_ap, slK3_ap, bools_map, allD_rep, sortKF_ap, sortKK_ap, isi2F_ap, propF_ap, propK_ap, min2D_ap, max2D_ap, absD_ap, rg1F_ap, rg1K_ap, rg2F_ap, rg2K_ap, rg2K2_ap, tupRgF_ap, lstRgM_ap, lc2M_ap, lc2K_ap, dnewTM_ap, done1TM_ap, done1TK_ap, done1TK2_ap, listP0_ap, listPF_ap, dgetF_ap, dgetP2_ap, dgetPK_ap, dgetP0_ap, dgetPF_ap, starRgF_ap, starRgK2_ap, remO_ap, remK_ap, rem0_ap, remF_ap, listM_ap, listK_ap, ownL1_ap, extK2_some, extK_lst, ext0_some, extF_ap, forO0_some], ?_, _, _, rfl⟩
      have eg : C.getD k [] = C[k] := by rw [List.getD_eq_getElem?_getD, List.getElem?_eq_getElem hk']; rfl
      have hm := h.mem C[k] (List.getElem_mem hk')
      rw [eg]
      have y2 := notIn_lots C[k] (ledL t)
      rw [decide_eq_true hm, Bool.not_true] at y2
      obtain ⟨i, j, hi, hj, -, ec⟩ := mem_led.1 hm
      have y1 : F_is_cell [lotD C[k]] = .ret (.bl true) := by rw [ec]; exact F_is_cell_eq i j
      by_cases hk0 : k = 0
      · subst hk0
        have y3 : cmpD (fun i j => decide (j < i)) (nD 0) (.int 0) = some (.bl false) := rfl
        simp -implicitDefEqProofs only [runF, runM, envOf, envM, List.map_cons, List.map_nil, List.length_cons, List.length_nil, List.cons_append, List.nil_append, List.replicate, List.getElem?_cons_succ, List.getElem?_cons_zero, List.set_cons_succ, List.set_cons_zero, if_true, Bool.false_eq_true, if_false, Nat.reduceAdd, Nat.reduceSub, Nat.zero_add, Nat.zero_le, Bool.not_true, Bool.not_false, Option.some.injEq, Option.bind_some, Nat.reduceLeDiff, bnd_ok, bnd_bad, toS_ok, toS_bad, opt_some, opt_none, vOut_fz, vOut_ow, varF_ap, cF_ap, op2F_ap, op2K_ap, op2K2_ap, op1F_ap, op1K_ap, nilF_ap, consF_ap, consK_ap, consK2_ap, tupF_ap, tupK_ap, lstM_ap, lstK_ap, slget_fz, slget_ow, frzF_ap, frzK_ap, fzM_ap, fzK_ap, cbF_ap, cbK_ap, asB_bl, testF_ap, testK_ap, andT_ap, andTK_ap, orT_ap, orTK_ap, notT_ap, notTK_ap, andV_ap, andVK_ap, orV_ap, orVK_ap, notV_ap, notVK_ap, ifE_ap, ifEK_ap, chainF_ap, chainK_ap, chainK3_ap, chainK2_cmp, thn_nx, thn_rt, thn_bad, seqF_ap, ifS_ap, ifSK_ap, retF_ap, retK_ap, retN_ap, nxF_ap, neverF_ap, dropF_ap, dropK_ap, gnF_ap, gnilF_ap, gconsF_ap, gtupF_ap, optS_some, asgF_ap, asgK_ap, setM_ap, setK_ap, parF_ap, parK_ap, parK2_ap, callO_ret, callF_ap, callK_ap, fin_nx, fin_rt, oAt_ow, ownAt_ap, callMR_ret, callMK2_some, callMK_ap, callM0_some, callMF_ap, finM_nx, finM_rt, oL_ow, ownL_ap, appK2_some, appK_ap, app0_some, appF_ap, pop2_some, pop0_some, popF_ap, setI3_some, setI2_some, setIK2_ap, setI1_some, setIK_ap, setIF_ap, lkAt_fz, lkAt_ow, lookAt_ap, ixP2_ap, ixPK_ap, ixP0_some, ixPF_ap, scOut_some, isSc_bl, isSc_int, opPLK_ap, opPL0_some, opPLF_ap, opPRK_ap, opPRF_ap, nilMs_ap, consMs_ap, consMK_ap, consMK2_ap, par3F_ap, par3K_ap, dinP2_ap, dinP2_t, dinPK_ap, dinPF_ap, toKey_tup, toKeys_tup, toKey_int, dnewM_ap, done1M_ap, done1K_ap, done1K2_ap, dputO_some, dputK2_ap, dput1_some, dputK_ap, dputF_ap, itemsD_lst, itemsD_tup, itemsD_str, itF_ap, itK_ap, enF_ap, enK_lst, enK_tup, enK_str, rng1F_ap, rng2F_ap, rng2K_ap, starK2_ap, starF_ap, starK_lst, starK_tup, starK_str, forS_ap, forK_ap, lcM_ap, lcK_ap, mkL_ap, tYesF_ap, wipeE_nil, wipeE_cons, addD_int, subD_int, negD_int, cmpD_int, intD_int, intD_bl, tupleD_lst, tupleD_tup, listD_tup, eqD_int, neD_int, lenA_lst, lenA_tup, lenA_scr, lenD_lst, isiF_ap, isoF_ap, fldF_ap, fldK_one, joinF_ap, joinK_ap, joinK2_lst, makeR_ret, makeM_ap, makeK_ap, noPF_ap, partF_ap, partK_ap, slF_ap, slK_ap, slK2_ap, slK3_ap, bools_map, allD_rep, sortKF_ap, sortKK_ap, isi2F_ap, propF_ap, propK_ap, min2D_ap, max2D_ap, absD_ap, rg1F_ap, rg1K_ap, rg2F_ap, rg2K_ap, rg2K2_ap, tupRgF_ap, lstRgM_ap, lc2M_ap, lc2K_ap, dnewTM_ap, done1TM_ap, done1TK_ap, done1TK2_ap, listP0_ap, listPF_ap, dgetF_ap, dgetP2_ap, dgetPK_ap, dgetP0_ap, dgetPF_ap, starRgF_ap, starRgK2_ap, remO_ap, remK_ap, rem0_ap, remF_ap, listM_ap, listK_ap, ownL1_ap, extK2_some, extK_lst, ext0_some, extF_ap, forO0_some, B_need_break_L1, y1, y2, y3]
      · have y3 : cmpD (fun i j => decide (j < i)) (nD k) (.int 0) = some (.bl true) := by
          simp only [nD, cmpD_int]; rw [decide_eq_true (by omega)]
        have y4 : subD (nD k) (.int 1) = some (nD (k - 1)) := by
          show some (D.int ((k : Int) - 1)) = _
          congr 2; omega
        have y5 : ixD (ordD C) (nD (k - 1)) = some (lotD (C[k - 1]'(by omega))) := by
          rw [ordD, ix_tup' (by simp; omega)]; simp
        have hlt := List.pairwise_iff_getElem.1 h.asc (k - 1) k (by omega) hk' (by omega)
        obtain ⟨i', j', -, -, -, ec'⟩ := mem_led.1 (h.mem (C[k - 1]'(by omega)) (List.getElem_mem _))
        have y6 : tupCD leTI (lotD C[k]) (lotD (C[k - 1]'(by omega))) = some (.bl false) := by
          rw [ec, ec'] at hlt ⊢
          simp only [tupCD, lotD, List.map_cons, List.map_nil, ints_cell, Option.bind_some, le_cells hlt]
        simp -implicitDefEqProofs only [runF, runM, envOf, envM, List.map_cons, List.map_nil, List.length_cons, List.length_nil, List.cons_append, List.nil_append, List.replicate, List.getElem?_cons_succ, List.getElem?_cons_zero, List.set_cons_succ, List.set_cons_zero, if_true, Bool.false_eq_true, if_false, Nat.reduceAdd, Nat.reduceSub, Nat.zero_add, Nat.zero_le, Bool.not_true, Bool.not_false, Option.some.injEq, Option.bind_some, Nat.reduceLeDiff, bnd_ok, bnd_bad, toS_ok, toS_bad, opt_some, opt_none, vOut_fz, vOut_ow, varF_ap, cF_ap, op2F_ap, op2K_ap, op2K2_ap, op1F_ap, op1K_ap, nilF_ap, consF_ap, consK_ap, consK2_ap, tupF_ap, tupK_ap, lstM_ap, lstK_ap, slget_fz, slget_ow, frzF_ap, frzK_ap, fzM_ap, fzK_ap, cbF_ap, cbK_ap, asB_bl, testF_ap, testK_ap, andT_ap, andTK_ap, orT_ap, orTK_ap, notT_ap, notTK_ap, andV_ap, andVK_ap, orV_ap, orVK_ap, notV_ap, notVK_ap, ifE_ap, ifEK_ap, chainF_ap, chainK_ap, chainK3_ap, chainK2_cmp, thn_nx, thn_rt, thn_bad, seqF_ap, ifS_ap, ifSK_ap, retF_ap, retK_ap, retN_ap, nxF_ap, neverF_ap, dropF_ap, dropK_ap, gnF_ap, gnilF_ap, gconsF_ap, gtupF_ap, optS_some, asgF_ap, asgK_ap, setM_ap, setK_ap, parF_ap, parK_ap, parK2_ap, callO_ret, callF_ap, callK_ap, fin_nx, fin_rt, oAt_ow, ownAt_ap, callMR_ret, callMK2_some, callMK_ap, callM0_some, callMF_ap, finM_nx, finM_rt, oL_ow, ownL_ap, appK2_some, appK_ap, app0_some, appF_ap, pop2_some, pop0_some, popF_ap, setI3_some, setI2_some, setIK2_ap, setI1_some, setIK_ap, setIF_ap, lkAt_fz, lkAt_ow, lookAt_ap, ixP2_ap, ixPK_ap, ixP0_some, ixPF_ap, scOut_some, isSc_bl, isSc_int, opPLK_ap, opPL0_some, opPLF_ap, opPRK_ap, opPRF_ap, nilMs_ap, consMs_ap, consMK_ap, consMK2_ap, par3F_ap, par3K_ap, dinP2_ap, dinP2_t, dinPK_ap, dinPF_ap, toKey_tup, toKeys_tup, toKey_int, dnewM_ap, done1M_ap, done1K_ap, done1K2_ap, dputO_some, dputK2_ap, dput1_some, dputK_ap, dputF_ap, itemsD_lst, itemsD_tup, itemsD_str, itF_ap, itK_ap, enF_ap, enK_lst, enK_tup, enK_str, rng1F_ap, rng2F_ap, rng2K_ap, starK2_ap, starF_ap, starK_lst, starK_tup, starK_str, forS_ap, forK_ap, lcM_ap, lcK_ap, mkL_ap, tYesF_ap, wipeE_nil, wipeE_cons, addD_int, subD_int, negD_int, cmpD_int, intD_int, intD_bl, tupleD_lst, tupleD_tup, listD_tup, eqD_int, neD_int, lenA_lst, lenA_tup, lenA_scr, lenD_lst, isiF_ap, isoF_ap, fldF_ap, fldK_one, joinF_ap, joinK_ap, joinK2_lst, makeR_ret, makeM_ap, makeK_ap, noPF_ap, partF_ap, partK_ap, slF_ap, slK_ap, slK2_ap, slK3_ap, bools_map, allD_rep, sortKF_ap, sortKK_ap, isi2F_ap, propF_ap, propK_ap, min2D_ap, max2D_ap, absD_ap, rg1F_ap, rg1K_ap, rg2F_ap, rg2K_ap, rg2K2_ap, tupRgF_ap, lstRgM_ap, lc2M_ap, lc2K_ap, dnewTM_ap, done1TM_ap, done1TK_ap, done1TK2_ap, listP0_ap, listPF_ap, dgetF_ap, dgetP2_ap, dgetPK_ap, dgetP0_ap, dgetPF_ap, starRgF_ap, starRgK2_ap, remO_ap, remK_ap, rem0_ap, remF_ap, listM_ap, listK_ap, ownL1_ap, extK2_some, extK_lst, ext0_some, extF_ap, forO0_some, B_need_break_L1, y1, y2, y3, y4, y5, y6])
  have x1 : ∀ ε : Env, enK (ordD C) ε = .ok ((List.range' 0 C.length).map fun k => D.tup [nD k, lotD (C.getD k [])]) ε := fun ε => by unfold ordD; rw [enK_tup, enumD_map, enZ_rg lotD _ []]
  have x2 : ∀ ε : Env, isiK "tuple" (ordD C) ε = .ok (.bl true) ε := fun _ => rfl
  simp only [B_need_break_L1] at e
  simp -implicitDefEqProofs only [runF, runM, envOf, envM, List.map_cons, List.map_nil, List.length_cons, List.length_nil, List.cons_append, List.nil_append, List.replicate, List.getElem?_cons_succ, List.getElem?_cons_zero, List.set_cons_succ, List.set_cons_zero, if_true, Bool.false_eq_true, if_false, Nat.reduceAdd, Nat.reduceSub, Nat.zero_add, Nat.zero_le, Bool.not_true, Bool.not_false, Option.some.injEq, Option.bind_some, Nat.reduceLeDiff, bnd_ok, bnd_bad, toS_ok, toS_bad, opt_some, opt_none, vOut_fz, vOut_ow, varF_ap, cF_ap, op2F_ap, op2K_ap, op2K2_ap, op1F_ap, op1K_ap, nilF_ap, consF_ap, consK_ap, consK2_ap, tupF_ap, tupK_ap, lstM_ap, lstK_ap, slget_fz, slget_ow, frzF_ap, frzK_ap, fzM_ap, fzK_ap, cbF_ap, cbK_ap, asB_bl, testF_ap, testK_ap, andT_ap, andTK_ap, orT_ap, orTK_ap, notT_ap, notTK_ap, andV_ap, andVK_ap, orV_ap, orVK_ap, notV_ap, notVK_ap, ifE_ap, ifEK_ap, chainF_ap, chainK_ap, chainK3_ap, chainK2_cmp, thn_nx, thn_rt, thn_bad, seqF_ap, ifS_ap, ifSK_ap, retF_ap, retK_ap, retN_ap, nxF_ap, neverF_ap, dropF_ap, dropK_ap, gnF_ap, gnilF_ap, gconsF_ap, gtupF_ap, optS_some, asgF_ap, asgK_ap, setM_ap, setK_ap, parF_ap, parK_ap, parK2_ap, callO_ret, callF_ap, callK_ap, fin_nx, fin_rt, oAt_ow, ownAt_ap, callMR_ret, callMK2_some, callMK_ap, callM0_some, callMF_ap, finM_nx, finM_rt, oL_ow, ownL_ap, appK2_some, appK_ap, app0_some, appF_ap, pop2_some, pop0_some, popF_ap, setI3_some, setI2_some, setIK2_ap, setI1_some, setIK_ap, setIF_ap, lkAt_fz, lkAt_ow, lookAt_ap, ixP2_ap, ixPK_ap, ixP0_some, ixPF_ap, scOut_some, isSc_bl, isSc_int, opPLK_ap, opPL0_some, opPLF_ap, opPRK_ap, opPRF_ap, nilMs_ap, consMs_ap, consMK_ap, consMK2_ap, par3F_ap, par3K_ap, dinP2_ap, dinP2_t, dinPK_ap, dinPF_ap, toKey_tup, toKeys_tup, toKey_int, dnewM_ap, done1M_ap, done1K_ap, done1K2_ap, dputO_some, dputK2_ap, dput1_some, dputK_ap, dputF_ap, itemsD_lst, itemsD_tup, itemsD_str, itF_ap, itK_ap, enF_ap, enK_lst, enK_tup, enK_str, rng1F_ap, rng2F_ap, rng2K_ap, starK2_ap, starF_ap, starK_lst, starK_tup, starK_str, forS_ap, forK_ap, lcM_ap, lcK_ap, mkL_ap, tYesF_ap, wipeE_nil, wipeE_cons, addD_int, subD_int, negD_int, cmpD_int, intD_int, intD_bl, tupleD_lst, tupleD_tup, listD_tup, eqD_int, neD_int, lenA_lst, lenA_tup, lenA_scr, lenD_lst, isiF_ap, isoF_ap, fldF_ap, fldK_one, joinF_ap, joinK_ap, joinK2_lst, makeR_ret, makeM_ap, makeK_ap, noPF_ap, partF_ap, partK_ap, slF_ap, slK_ap, slK2_ap, slK3_ap, bools_map, allD_rep, sortKF_ap, sortKK_ap, isi2F_ap, propF_ap, propK_ap, min2D_ap, max2D_ap, absD_ap, rg1F_ap, rg1K_ap, rg2F_ap, rg2K_ap, rg2K2_ap, tupRgF_ap, lstRgM_ap, lc2M_ap, lc2K_ap, dnewTM_ap, done1TM_ap, done1TK_ap, done1TK2_ap, listP0_ap, listPF_ap, dgetF_ap, dgetP2_ap, dgetPK_ap, dgetP0_ap, dgetPF_ap, starRgF_ap, starRgK2_ap, remO_ap, remK_ap, rem0_ap, remF_ap, listM_ap, listK_ap, ownL1_ap, extK2_some, extK_lst, ext0_some, extF_ap, forO0_some, F_need_break, B_need_break, x2, x0, x1, e]
theorem F_broken_eq {t : Tb} (ok : BOk t) {C : List (List Nat)} (h : Brk t C) : F_broken [bdD t, ordD C] = .ret (bdD (cutT t C)) := by
  have x1 := F_need_board_eq t
  have x2 := F_need_break_eq ok h
  have x3 := F_without_eq ok h.inn
  simp -implicitDefEqProofs only [runF, runM, envOf, envM, List.map_cons, List.map_nil, List.length_cons, List.length_nil, List.cons_append, List.nil_append, List.replicate, List.getElem?_cons_succ, List.getElem?_cons_zero, List.set_cons_succ, List.set_cons_zero, if_true, Bool.false_eq_true, if_false, Nat.reduceAdd, Nat.reduceSub, Nat.zero_add, Nat.zero_le, Bool.not_true, Bool.not_false, Option.some.injEq, Option.bind_some, Nat.reduceLeDiff, bnd_ok, bnd_bad, toS_ok, toS_bad, opt_some, opt_none, vOut_fz, vOut_ow, varF_ap, cF_ap, op2F_ap, op2K_ap, op2K2_ap, op1F_ap, op1K_ap, nilF_ap, consF_ap, consK_ap, consK2_ap, tupF_ap, tupK_ap, lstM_ap, lstK_ap, slget_fz, slget_ow, frzF_ap, frzK_ap, fzM_ap, fzK_ap, cbF_ap, cbK_ap, asB_bl, testF_ap, testK_ap, andT_ap, andTK_ap, orT_ap, orTK_ap, notT_ap, notTK_ap, andV_ap, andVK_ap, orV_ap, orVK_ap, notV_ap, notVK_ap, ifE_ap, ifEK_ap, chainF_ap, chainK_ap, chainK3_ap, chainK2_cmp, thn_nx, thn_rt, thn_bad, seqF_ap, ifS_ap, ifSK_ap, retF_ap, retK_ap, retN_ap, nxF_ap, neverF_ap, dropF_ap, dropK_ap, gnF_ap, gnilF_ap, gconsF_ap, gtupF_ap, optS_some, asgF_ap, asgK_ap, setM_ap, setK_ap, parF_ap, parK_ap, parK2_ap, callO_ret, callF_ap, callK_ap, fin_nx, fin_rt, oAt_ow, ownAt_ap, callMR_ret, callMK2_some, callMK_ap, callM0_some, callMF_ap, finM_nx, finM_rt, oL_ow, ownL_ap, appK2_some, appK_ap, app0_some, appF_ap, pop2_some, pop0_some, popF_ap, setI3_some, setI2_some, setIK2_ap, setI1_some, setIK_ap, setIF_ap, lkAt_fz, lkAt_ow, lookAt_ap, ixP2_ap, ixPK_ap, ixP0_some, ixPF_ap, scOut_some, isSc_bl, isSc_int, opPLK_ap, opPL0_some, opPLF_ap, opPRK_ap, opPRF_ap, nilMs_ap, consMs_ap, consMK_ap, consMK2_ap, par3F_ap, par3K_ap, dinP2_ap, dinP2_t, dinPK_ap, dinPF_ap, toKey_tup, toKeys_tup, toKey_int, dnewM_ap, done1M_ap, done1K_ap, done1K2_ap, dputO_some, dputK2_ap, dput1_some, dputK_ap, dputF_ap, itemsD_lst, itemsD_tup, itemsD_str, itF_ap, itK_ap, enF_ap, enK_lst, enK_tup, enK_str, rng1F_ap, rng2F_ap, rng2K_ap, starK2_ap, starF_ap, starK_lst, starK_tup, starK_str, forS_ap, forK_ap, lcM_ap, lcK_ap, mkL_ap, tYesF_ap, wipeE_nil, wipeE_cons, addD_int, subD_int, negD_int, cmpD_int, intD_int, intD_bl, tupleD_lst, tupleD_tup, listD_tup, eqD_int, neD_int, lenA_lst, lenA_tup, lenA_scr, lenD_lst, isiF_ap, isoF_ap, fldF_ap, fldK_one, joinF_ap, joinK_ap, joinK2_lst, makeR_ret, makeM_ap, makeK_ap, noPF_ap, partF_ap, partK_ap, slF_ap, slK_ap, slK2_ap, slK3_ap, bools_map, allD_rep, sortKF_ap, sortKK_ap, isi2F_ap, propF_ap, propK_ap, min2D_ap, max2D_ap, absD_ap, rg1F_ap, rg1K_ap, rg2F_ap, rg2K_ap, rg2K2_ap, tupRgF_ap, lstRgM_ap, lc2M_ap, lc2K_ap, dnewTM_ap, done1TM_ap, done1TK_ap, done1TK2_ap, listP0_ap, listPF_ap, dgetF_ap, dgetP2_ap, dgetPK_ap, dgetP0_ap, dgetPF_ap, starRgF_ap, starRgK2_ap, remO_ap, remK_ap, rem0_ap, remF_ap, listM_ap, listK_ap, ownL1_ap, extK2_some, extK_lst, ext0_some, extF_ap, forO0_some, F_broken, B_broken, x1, x2, x3]
theorem F_comes_along_eq {t : Tb} (ok : BOk t) {C : List (List Nat)} (h : Brk t C) {s : Nat} (hs : s < thr t) : F_comes_along [bdD t, ordD C, nD s] = .ret (lotD (leastL (cutT t C) [s])) := by
  have x1 := F_need_board_eq t
  have x2 := F_need_break_eq ok h
  have x3 := F_need_thread_ok ok hs
  have x4 := F_without_eq ok h.inn
  have ok' := (cutT_ok ok h.inn).1
  have x5 := F_least_ok ok' (L := [s]) ⟨fun x hx => by simp at hx; subst hx; rw [cutT_thr ok h.inn]; exact hs, by simp⟩
  have x6 : F_lifted [bdD t, ordD C, nD s] = .ret (lotD (leastL (cutT t C) [s])) := by
    have y : D.tup [nD s] = lotD [s] := rfl
    simp -implicitDefEqProofs only [runF, runM, envOf, envM, List.map_cons, List.map_nil, List.length_cons, List.length_nil, List.cons_append, List.nil_append, List.replicate, List.getElem?_cons_succ, List.getElem?_cons_zero, List.set_cons_succ, List.set_cons_zero, if_true, Bool.false_eq_true, if_false, Nat.reduceAdd, Nat.reduceSub, Nat.zero_add, Nat.zero_le, Bool.not_true, Bool.not_false, Option.some.injEq, Option.bind_some, Nat.reduceLeDiff, bnd_ok, bnd_bad, toS_ok, toS_bad, opt_some, opt_none, vOut_fz, vOut_ow, varF_ap, cF_ap, op2F_ap, op2K_ap, op2K2_ap, op1F_ap, op1K_ap, nilF_ap, consF_ap, consK_ap, consK2_ap, tupF_ap, tupK_ap, lstM_ap, lstK_ap, slget_fz, slget_ow, frzF_ap, frzK_ap, fzM_ap, fzK_ap, cbF_ap, cbK_ap, asB_bl, testF_ap, testK_ap, andT_ap, andTK_ap, orT_ap, orTK_ap, notT_ap, notTK_ap, andV_ap, andVK_ap, orV_ap, orVK_ap, notV_ap, notVK_ap, ifE_ap, ifEK_ap, chainF_ap, chainK_ap, chainK3_ap, chainK2_cmp, thn_nx, thn_rt, thn_bad, seqF_ap, ifS_ap, ifSK_ap, retF_ap, retK_ap, retN_ap, nxF_ap, neverF_ap, dropF_ap, dropK_ap, gnF_ap, gnilF_ap, gconsF_ap, gtupF_ap, optS_some, asgF_ap, asgK_ap, setM_ap, setK_ap, parF_ap, parK_ap, parK2_ap, callO_ret, callF_ap, callK_ap, fin_nx, fin_rt, oAt_ow, ownAt_ap, callMR_ret, callMK2_some, callMK_ap, callM0_some, callMF_ap, finM_nx, finM_rt, oL_ow, ownL_ap, appK2_some, appK_ap, app0_some, appF_ap, pop2_some, pop0_some, popF_ap, setI3_some, setI2_some, setIK2_ap, setI1_some, setIK_ap, setIF_ap, lkAt_fz, lkAt_ow, lookAt_ap, ixP2_ap, ixPK_ap, ixP0_some, ixPF_ap, scOut_some, isSc_bl, isSc_int, opPLK_ap, opPL0_some, opPLF_ap, opPRK_ap, opPRF_ap, nilMs_ap, consMs_ap, consMK_ap, consMK2_ap, par3F_ap, par3K_ap, dinP2_ap, dinP2_t, dinPK_ap, dinPF_ap, toKey_tup, toKeys_tup, toKey_int, dnewM_ap, done1M_ap, done1K_ap, done1K2_ap, dputO_some, dputK2_ap, dput1_some, dputK_ap, dputF_ap, itemsD_lst, itemsD_tup, itemsD_str, itF_ap, itK_ap, enF_ap, enK_lst, enK_tup, enK_str, rng1F_ap, rng2F_ap, rng2K_ap, starK2_ap, starF_ap, starK_lst, starK_tup, starK_str, forS_ap, forK_ap, lcM_ap, lcK_ap, mkL_ap, tYesF_ap, wipeE_nil, wipeE_cons, addD_int, subD_int, negD_int, cmpD_int, intD_int, intD_bl, tupleD_lst, tupleD_tup, listD_tup, eqD_int, neD_int, lenA_lst, lenA_tup, lenA_scr, lenD_lst, isiF_ap, isoF_ap, fldF_ap, fldK_one, joinF_ap, joinK_ap, joinK2_lst, makeR_ret, makeM_ap, makeK_ap, noPF_ap, partF_ap, partK_ap, slF_ap, slK_ap, slK2_ap, slK3_ap, bools_map, allD_rep, sortKF_ap, sortKK_ap, isi2F_ap, propF_ap, propK_ap, min2D_ap, max2D_ap, absD_ap, rg1F_ap, rg1K_ap, rg2F_ap, rg2K_ap, rg2K2_ap, tupRgF_ap, lstRgM_ap, lc2M_ap, lc2K_ap, dnewTM_ap, done1TM_ap, done1TK_ap, done1TK2_ap, listP0_ap, listPF_ap, dgetF_ap, dgetP2_ap, dgetPK_ap, dgetP0_ap, dgetPF_ap, starRgF_ap, starRgK2_ap, remO_ap, remK_ap, rem0_ap, remF_ap, listM_ap, listK_ap, ownL1_ap, extK2_some, extK_lst, ext0_some, extF_ap, forO0_some, F_lifted, B_lifted, x4, y, x5]
  simp -implicitDefEqProofs only [runF, runM, envOf, envM, List.map_cons, List.map_nil, List.length_cons, List.length_nil, List.cons_append, List.nil_append, List.replicate, List.getElem?_cons_succ, List.getElem?_cons_zero, List.set_cons_succ, List.set_cons_zero, if_true, Bool.false_eq_true, if_false, Nat.reduceAdd, Nat.reduceSub, Nat.zero_add, Nat.zero_le, Bool.not_true, Bool.not_false, Option.some.injEq, Option.bind_some, Nat.reduceLeDiff, bnd_ok, bnd_bad, toS_ok, toS_bad, opt_some, opt_none, vOut_fz, vOut_ow, varF_ap, cF_ap, op2F_ap, op2K_ap, op2K2_ap, op1F_ap, op1K_ap, nilF_ap, consF_ap, consK_ap, consK2_ap, tupF_ap, tupK_ap, lstM_ap, lstK_ap, slget_fz, slget_ow, frzF_ap, frzK_ap, fzM_ap, fzK_ap, cbF_ap, cbK_ap, asB_bl, testF_ap, testK_ap, andT_ap, andTK_ap, orT_ap, orTK_ap, notT_ap, notTK_ap, andV_ap, andVK_ap, orV_ap, orVK_ap, notV_ap, notVK_ap, ifE_ap, ifEK_ap, chainF_ap, chainK_ap, chainK3_ap, chainK2_cmp, thn_nx, thn_rt, thn_bad, seqF_ap, ifS_ap, ifSK_ap, retF_ap, retK_ap, retN_ap, nxF_ap, neverF_ap, dropF_ap, dropK_ap, gnF_ap, gnilF_ap, gconsF_ap, gtupF_ap, optS_some, asgF_ap, asgK_ap, setM_ap, setK_ap, parF_ap, parK_ap, parK2_ap, callO_ret, callF_ap, callK_ap, fin_nx, fin_rt, oAt_ow, ownAt_ap, callMR_ret, callMK2_some, callMK_ap, callM0_some, callMF_ap, finM_nx, finM_rt, oL_ow, ownL_ap, appK2_some, appK_ap, app0_some, appF_ap, pop2_some, pop0_some, popF_ap, setI3_some, setI2_some, setIK2_ap, setI1_some, setIK_ap, setIF_ap, lkAt_fz, lkAt_ow, lookAt_ap, ixP2_ap, ixPK_ap, ixP0_some, ixPF_ap, scOut_some, isSc_bl, isSc_int, opPLK_ap, opPL0_some, opPLF_ap, opPRK_ap, opPRF_ap, nilMs_ap, consMs_ap, consMK_ap, consMK2_ap, par3F_ap, par3K_ap, dinP2_ap, dinP2_t, dinPK_ap, dinPF_ap, toKey_tup, toKeys_tup, toKey_int, dnewM_ap, done1M_ap, done1K_ap, done1K2_ap, dputO_some, dputK2_ap, dput1_some, dputK_ap, dputF_ap, itemsD_lst, itemsD_tup, itemsD_str, itF_ap, itK_ap, enF_ap, enK_lst, enK_tup, enK_str, rng1F_ap, rng2F_ap, rng2K_ap, starK2_ap, starF_ap, starK_lst, starK_tup, starK_str, forS_ap, forK_ap, lcM_ap, lcK_ap, mkL_ap, tYesF_ap, wipeE_nil, wipeE_cons, addD_int, subD_int, negD_int, cmpD_int, intD_int, intD_bl, tupleD_lst, tupleD_tup, listD_tup, eqD_int, neD_int, lenA_lst, lenA_tup, lenA_scr, lenD_lst, isiF_ap, isoF_ap, fldF_ap, fldK_one, joinF_ap, joinK_ap, joinK2_lst, makeR_ret, makeM_ap, makeK_ap, noPF_ap, partF_ap, partK_ap, slF_ap, slK_ap, slK2_ap, slK3_ap, bools_map, allD_rep, sortKF_ap, sortKK_ap, isi2F_ap, propF_ap, propK_ap, min2D_ap, max2D_ap, absD_ap, rg1F_ap, rg1K_ap, rg2F_ap, rg2K_ap, rg2K2_ap, tupRgF_ap, lstRgM_ap, lc2M_ap, lc2K_ap, dnewTM_ap, done1TM_ap, done1TK_ap, done1TK2_ap, listP0_ap, listPF_ap, dgetF_ap, dgetP2_ap, dgetPK_ap, dgetP0_ap, dgetPF_ap, starRgF_ap, starRgK2_ap, remO_ap, remK_ap, rem0_ap, remF_ap, listM_ap, listK_ap, ownL1_ap, extK2_some, extK_lst, ext0_some, extF_ap, forO0_some, F_comes_along, B_comes_along, x1, x2, x3, x6]
theorem str_plus : ("+" : Str) = ⟨#[43]⟩ := by decide +kernel
theorem str_minus : ("-" : Str) = ⟨#[45]⟩ := by decide +kernel
def sigL (n : Nat) (L : List Nat) : List Nat := (List.range' 0 n).map fun s => if s ∈ L then 43 else 45
theorem sig_len (n : Nat) (L : List Nat) : (sigL n L).length = n := by simp [sigL]
theorem F_sight_of_eq {t : Tb} (ok : BOk t) {C : List (List Nat)} (h : Brk t C) {s : Nat} (hs : s < thr t) : F_sight_of [bdD t, ordD C, nD s] = .ret (lnD (sigL (thr t) (leastL (cutT t C) [s]))) := by
  have ht := ok.thr10
  have x1 := F_comes_along_eq ok h hs
  have x2 := lenA_bd ok
  have x3 : ∀ ε : Env, rng1K (.int (thr t)) ε = .ok ((List.range' 0 (thr t)).map nD) ε := rng_nat (thr t) (by omega)
  generalize leastL (cutT t C) [s] = L at *
  have el : lcL [4] (gnF 4) tYesF (ifE (testF (op2F (varF 4) (varF 3) inD)) (cF (.str "+")) (cF (.str "-"))) ((List.range' 0 (thr t)).map nD) [] [.fz (bdD t), .fz (ordD C), .fz (nD s), .fz (lotD L), .no]
      = .ok ((sigL (thr t) L).map sgD) [.fz (bdD t), .fz (ordD C), .fz (nD s), .fz (lotD L), .no] := by
    have q : (sigL (thr t) L).map sgD = (List.range' 0 (thr t)).map fun s => sgD (if s ∈ L then 43 else 45) := by simp [sigL]
    rw [q]
    refine lc_mapY (vs := [4]) (gf := gnF 4) (ε := [.fz (bdD t), .fz (ordD C), .fz (nD s), .fz (lotD L), .no]) nD _ (List.range' 0 (thr t)) (by simp; omega) fun x hx => ⟨[.fz (bdD t), .fz (ordD C), .fz (nD s), .fz (lotD L), .fz (nD x)], [.fz (bdD t), .fz (ordD C), .fz (nD s), .fz (lotD L), .fz (nD x)], rfl, rfl, ?_⟩
    have y := inD_lot L x
    by_cases hx : x ∈ L
    · rw [decide_eq_true hx] at y
      simp -implicitDefEqProofs only [runF, runM, envOf, envM, List.map_cons, List.map_nil, List.length_cons, List.length_nil, List.cons_append, List.nil_append, List.replicate, List.getElem?_cons_succ, List.getElem?_cons_zero, List.set_cons_succ, List.set_cons_zero, if_true, Bool.false_eq_true, if_false, Nat.reduceAdd, Nat.reduceSub, Nat.zero_add, Nat.zero_le, Bool.not_true, Bool.not_false, Option.some.injEq, Option.bind_some, Nat.reduceLeDiff, bnd_ok, bnd_bad, toS_ok, toS_bad, opt_some, opt_none, vOut_fz, vOut_ow, varF_ap, cF_ap, op2F_ap, op2K_ap, op2K2_ap, op1F_ap, op1K_ap, nilF_ap, consF_ap, consK_ap, consK2_ap, tupF_ap, tupK_ap, lstM_ap, lstK_ap, slget_fz, slget_ow, frzF_ap, frzK_ap, fzM_ap, fzK_ap, cbF_ap, cbK_ap, asB_bl, testF_ap, testK_ap, andT_ap, andTK_ap, orT_ap, orTK_ap, notT_ap, notTK_ap, andV_ap, andVK_ap, orV_ap, orVK_ap, notV_ap, notVK_ap, ifE_ap, ifEK_ap, chainF_ap, chainK_ap, chainK3_ap, chainK2_cmp, thn_nx, thn_rt, thn_bad, seqF_ap, ifS_ap, ifSK_ap, retF_ap, retK_ap, retN_ap, nxF_ap, neverF_ap, dropF_ap, dropK_ap, gnF_ap, gnilF_ap, gconsF_ap, gtupF_ap, optS_some, asgF_ap, asgK_ap, setM_ap, setK_ap, parF_ap, parK_ap, parK2_ap, callO_ret, callF_ap, callK_ap, fin_nx, fin_rt, oAt_ow, ownAt_ap, callMR_ret, callMK2_some, callMK_ap, callM0_some, callMF_ap, finM_nx, finM_rt, oL_ow, ownL_ap, appK2_some, appK_ap, app0_some, appF_ap, pop2_some, pop0_some, popF_ap, setI3_some, setI2_some, setIK2_ap, setI1_some, setIK_ap, setIF_ap, lkAt_fz, lkAt_ow, lookAt_ap, ixP2_ap, ixPK_ap, ixP0_some, ixPF_ap, scOut_some, isSc_bl, isSc_int, opPLK_ap, opPL0_some, opPLF_ap, opPRK_ap, opPRF_ap, nilMs_ap, consMs_ap, consMK_ap, consMK2_ap, par3F_ap, par3K_ap, dinP2_ap, dinP2_t, dinPK_ap, dinPF_ap, toKey_tup, toKeys_tup, toKey_int, dnewM_ap, done1M_ap, done1K_ap, done1K2_ap, dputO_some, dputK2_ap, dput1_some, dputK_ap, dputF_ap, itemsD_lst, itemsD_tup, itemsD_str, itF_ap, itK_ap, enF_ap, enK_lst, enK_tup, enK_str, rng1F_ap, rng2F_ap, rng2K_ap, starK2_ap, starF_ap, starK_lst, starK_tup, starK_str, forS_ap, forK_ap, lcM_ap, lcK_ap, mkL_ap, tYesF_ap, wipeE_nil, wipeE_cons, addD_int, subD_int, negD_int, cmpD_int, intD_int, intD_bl, tupleD_lst, tupleD_tup, listD_tup, eqD_int, neD_int, lenA_lst, lenA_tup, lenA_scr, lenD_lst, isiF_ap, isoF_ap, fldF_ap, fldK_one, joinF_ap, joinK_ap, joinK2_lst, makeR_ret, makeM_ap, makeK_ap, noPF_ap, partF_ap, partK_ap, slF_ap, slK_ap, slK2_ap, slK3_ap, bools_map, allD_rep, sortKF_ap, sortKK_ap, isi2F_ap, propF_ap, propK_ap, min2D_ap, max2D_ap, absD_ap, rg1F_ap, rg1K_ap, rg2F_ap, rg2K_ap, rg2K2_ap, tupRgF_ap, lstRgM_ap, lc2M_ap, lc2K_ap, dnewTM_ap, done1TM_ap, done1TK_ap, done1TK2_ap, listP0_ap, listPF_ap, dgetF_ap, dgetP2_ap, dgetPK_ap, dgetP0_ap, dgetPF_ap, starRgF_ap, starRgK2_ap, remO_ap, remK_ap, rem0_ap, remF_ap, listM_ap, listK_ap, ownL1_ap, extK2_some, extK_lst, ext0_some, extF_ap, forO0_some, y]
      rw [if_pos hx, str_plus]
    · rw [decide_eq_false hx] at y
      simp -implicitDefEqProofs only [runF, runM, envOf, envM, List.map_cons, List.map_nil, List.length_cons, List.length_nil, List.cons_append, List.nil_append, List.replicate, List.getElem?_cons_succ, List.getElem?_cons_zero, List.set_cons_succ, List.set_cons_zero, if_true, Bool.false_eq_true, if_false, Nat.reduceAdd, Nat.reduceSub, Nat.zero_add, Nat.zero_le, Bool.not_true, Bool.not_false, Option.some.injEq, Option.bind_some, Nat.reduceLeDiff, bnd_ok, bnd_bad, toS_ok, toS_bad, opt_some, opt_none, vOut_fz, vOut_ow, varF_ap, cF_ap, op2F_ap, op2K_ap, op2K2_ap, op1F_ap, op1K_ap, nilF_ap, consF_ap, consK_ap, consK2_ap, tupF_ap, tupK_ap, lstM_ap, lstK_ap, slget_fz, slget_ow, frzF_ap, frzK_ap, fzM_ap, fzK_ap, cbF_ap, cbK_ap, asB_bl, testF_ap, testK_ap, andT_ap, andTK_ap, orT_ap, orTK_ap, notT_ap, notTK_ap, andV_ap, andVK_ap, orV_ap, orVK_ap, notV_ap, notVK_ap, ifE_ap, ifEK_ap, chainF_ap, chainK_ap, chainK3_ap, chainK2_cmp, thn_nx, thn_rt, thn_bad, seqF_ap, ifS_ap, ifSK_ap, retF_ap, retK_ap, retN_ap, nxF_ap, neverF_ap, dropF_ap, dropK_ap, gnF_ap, gnilF_ap, gconsF_ap, gtupF_ap, optS_some, asgF_ap, asgK_ap, setM_ap, setK_ap, parF_ap, parK_ap, parK2_ap, callO_ret, callF_ap, callK_ap, fin_nx, fin_rt, oAt_ow, ownAt_ap, callMR_ret, callMK2_some, callMK_ap, callM0_some, callMF_ap, finM_nx, finM_rt, oL_ow, ownL_ap, appK2_some, appK_ap, app0_some, appF_ap, pop2_some, pop0_some, popF_ap, setI3_some, setI2_some, setIK2_ap, setI1_some, setIK_ap, setIF_ap, lkAt_fz, lkAt_ow, lookAt_ap, ixP2_ap, ixPK_ap, ixP0_some, ixPF_ap, scOut_some, isSc_bl, isSc_int, opPLK_ap, opPL0_some, opPLF_ap, opPRK_ap, opPRF_ap, nilMs_ap, consMs_ap, consMK_ap, consMK2_ap, par3F_ap, par3K_ap, dinP2_ap, dinP2_t, dinPK_ap, dinPF_ap, toKey_tup, toKeys_tup, toKey_int, dnewM_ap, done1M_ap, done1K_ap, done1K2_ap, dputO_some, dputK2_ap, dput1_some, dputK_ap, dputF_ap, itemsD_lst, itemsD_tup, itemsD_str, itF_ap, itK_ap, enF_ap, enK_lst, enK_tup, enK_str, rng1F_ap, rng2F_ap, rng2K_ap, starK2_ap, starF_ap, starK_lst, starK_tup, starK_str, forS_ap, forK_ap, lcM_ap, lcK_ap, mkL_ap, tYesF_ap, wipeE_nil, wipeE_cons, addD_int, subD_int, negD_int, cmpD_int, intD_int, intD_bl, tupleD_lst, tupleD_tup, listD_tup, eqD_int, neD_int, lenA_lst, lenA_tup, lenA_scr, lenD_lst, isiF_ap, isoF_ap, fldF_ap, fldK_one, joinF_ap, joinK_ap, joinK2_lst, makeR_ret, makeM_ap, makeK_ap, noPF_ap, partF_ap, partK_ap, slF_ap, slK_ap, slK2_ap, slK3_ap, bools_map, allD_rep, sortKF_ap, sortKK_ap, isi2F_ap, propF_ap, propK_ap, min2D_ap, max2D_ap, absD_ap, rg1F_ap, rg1K_ap, rg2F_ap, rg2K_ap, rg2K2_ap, tupRgF_ap, lstRgM_ap, lc2M_ap, lc2K_ap, dnewTM_ap, done1TM_ap, done1TK_ap, done1TK2_ap, listP0_ap, listPF_ap, dgetF_ap, dgetP2_ap, dgetPK_ap, dgetP0_ap, dgetPF_ap, starRgF_ap, starRgK2_ap, remO_ap, remK_ap, rem0_ap, remF_ap, listM_ap, listK_ap, ownL1_ap, extK2_some, extK_lst, ext0_some, extF_ap, forO0_some, y]
      rw [if_neg hx, str_minus]
  have ej := join_sg (cs := sigL (thr t) L) (by rw [sig_len]; omega)
  simp -implicitDefEqProofs only [runF, runM, envOf, envM, List.map_cons, List.map_nil, List.length_cons, List.length_nil, List.cons_append, List.nil_append, List.replicate, List.getElem?_cons_succ, List.getElem?_cons_zero, List.set_cons_succ, List.set_cons_zero, if_true, Bool.false_eq_true, if_false, Nat.reduceAdd, Nat.reduceSub, Nat.zero_add, Nat.zero_le, Bool.not_true, Bool.not_false, Option.some.injEq, Option.bind_some, Nat.reduceLeDiff, bnd_ok, bnd_bad, toS_ok, toS_bad, opt_some, opt_none, vOut_fz, vOut_ow, varF_ap, cF_ap, op2F_ap, op2K_ap, op2K2_ap, op1F_ap, op1K_ap, nilF_ap, consF_ap, consK_ap, consK2_ap, tupF_ap, tupK_ap, lstM_ap, lstK_ap, slget_fz, slget_ow, frzF_ap, frzK_ap, fzM_ap, fzK_ap, cbF_ap, cbK_ap, asB_bl, testF_ap, testK_ap, andT_ap, andTK_ap, orT_ap, orTK_ap, notT_ap, notTK_ap, andV_ap, andVK_ap, orV_ap, orVK_ap, notV_ap, notVK_ap, ifE_ap, ifEK_ap, chainF_ap, chainK_ap, chainK3_ap, chainK2_cmp, thn_nx, thn_rt, thn_bad, seqF_ap, ifS_ap, ifSK_ap, retF_ap, retK_ap, retN_ap, nxF_ap, neverF_ap, dropF_ap, dropK_ap, gnF_ap, gnilF_ap, gconsF_ap, gtupF_ap, optS_some, asgF_ap, asgK_ap, setM_ap, setK_ap, parF_ap, parK_ap, parK2_ap, callO_ret, callF_ap, callK_ap, fin_nx, fin_rt, oAt_ow, ownAt_ap, callMR_ret, callMK2_some, callMK_ap, callM0_some, callMF_ap, finM_nx, finM_rt, oL_ow, ownL_ap, appK2_some, appK_ap, app0_some, appF_ap, pop2_some, pop0_some, popF_ap, setI3_some, setI2_some, setIK2_ap, setI1_some, setIK_ap, setIF_ap, lkAt_fz, lkAt_ow, lookAt_ap, ixP2_ap, ixPK_ap, ixP0_some, ixPF_ap, scOut_some, isSc_bl, isSc_int, opPLK_ap, opPL0_some, opPLF_ap, opPRK_ap, opPRF_ap, nilMs_ap, consMs_ap, consMK_ap, consMK2_ap, par3F_ap, par3K_ap, dinP2_ap, dinP2_t, dinPK_ap, dinPF_ap, toKey_tup, toKeys_tup, toKey_int, dnewM_ap, done1M_ap, done1K_ap, done1K2_ap, dputO_some, dputK2_ap, dput1_some, dputK_ap, dputF_ap, itemsD_lst, itemsD_tup, itemsD_str, itF_ap, itK_ap, enF_ap, enK_lst, enK_tup, enK_str, rng1F_ap, rng2F_ap, rng2K_ap, starK2_ap, starF_ap, starK_lst, starK_tup, starK_str, forS_ap, forK_ap, lcM_ap, lcK_ap, mkL_ap, tYesF_ap, wipeE_nil, wipeE_cons, addD_int, subD_int, negD_int, cmpD_int, intD_int, intD_bl, tupleD_lst, tupleD_tup, listD_tup, eqD_int, neD_int, lenA_lst, lenA_tup, lenA_scr, lenD_lst, isiF_ap, isoF_ap, fldF_ap, fldK_one, joinF_ap, joinK_ap, joinK2_lst, makeR_ret, makeM_ap, makeK_ap, noPF_ap, partF_ap, partK_ap, slF_ap, slK_ap, slK2_ap, slK3_ap, bools_map, allD_rep, sortKF_ap, sortKK_ap, isi2F_ap, propF_ap, propK_ap, min2D_ap, max2D_ap, absD_ap, rg1F_ap, rg1K_ap, rg2F_ap, rg2K_ap, rg2K2_ap, tupRgF_ap, lstRgM_ap, lc2M_ap, lc2K_ap, dnewTM_ap, done1TM_ap, done1TK_ap, done1TK2_ap, listP0_ap, listPF_ap, dgetF_ap, dgetP2_ap, dgetPK_ap, dgetP0_ap, dgetPF_ap, starRgF_ap, starRgK2_ap, remO_ap, remK_ap, rem0_ap, remF_ap, listM_ap, listK_ap, ownL1_ap, extK2_some, extK_lst, ext0_some, extF_ap, forO0_some, F_sight_of, B_sight_of, x1, x2, x3, el, ej]
theorem head_least {t : Tb} (ok : BOk t) {s : Nat} (hs : s < thr t) : ((clL t).filter fun L => decide (s ∈ L)).head? = some (leastL t [s]) := by
  have hself : s ∈ leastL t [s] := (mem_least ok).2 ⟨hs, s, by simp, .refl⟩
  refine head_min lin_sz ((clL_sorted t).filter _) (List.mem_filter.2 ⟨mem_clL.2 ⟨least_lot _, least_closed ok _⟩, by simpa using hself⟩) fun L hL => ?_
  obtain ⟨h1, h2⟩ := List.mem_filter.1 hL
  obtain ⟨h3, h4⟩ := mem_clL.1 h1
  refine sub_le (least_lot _).so h3.so fun x hx => ?_
  obtain ⟨_, o, ho, r⟩ := (mem_least ok).1 hx
  simp at ho
  subst ho
  exact h4.rch r (by simpa using h2)
noncomputable def dist (Ls : List (List Nat)) : List (List Nat) := (dedU [] Ls).mergeSort (leOf lotLt)
theorem dist_mem {Ls : List (List Nat)} {L : List Nat} : L ∈ dist Ls ↔ L ∈ Ls := by
  unfold dist
  rw [List.mem_mergeSort, dedU_mem]; simp
theorem dist_asc (Ls : List (List Nat)) : (dist Ls).Pairwise fun a b => lotLt a b = true := by
  have nd : (dist Ls).Nodup := ((List.mergeSort_perm _ _).nodup_iff).2 (dedU_nodup List.nodup_nil)
  have so : (dist Ls).Pairwise (fun a b => leOf lotLt a b = true) := lin_lot.sorted _
  exact (List.pairwise_and_iff.2 ⟨so, nd⟩).imp fun ⟨h1, h2⟩ => lt_of_le lin_lot h1 h2
theorem sset_dist {Ls : List (List Nat)} (h : Ls.length < 64) : sortSetD (lotsD Ls) = some (lotsD (dist Ls)) :=
  sset_lots h (((List.mergeSort_perm _ _).nodup_iff).2 (dedU_nodup List.nodup_nil)) (lin_lot.sorted _) fun _ => dist_mem
theorem lost_loop {Ls : List (List Nat)} (hl : Ls.length ≤ 25) (s1 s3 : Sl) {n : Nat} (hn : n ≤ 3) {d : D} (hd : RowOk d) :
    ∃ (C : List (List Nat)) (d' : D), lcL [4] (gnF 4) (testF (op2F (varF 2) (frzF (lstM nilF)) neD)) (op2F (varF 2) (callMF 1 0 (consF (cbF (consF (varF 2) nilF) (lenA 0 F_Board___len__)) nilF) F__law_taken) ixD) ((List.range' 0 n).map nD) [] [.ow d, s1, .fz (lotsD Ls), s3, .no] = .ok (C.map lotD) [.ow d', s1, .fz (lotsD Ls), s3, .no]
      ∧ RowOk d' ∧ C.length ≤ n ∧ ∀ c ∈ C, c ∈ Ls := by
  obtain ⟨acc', ε', e, C, d', rfl, rfl, hr, hlen, hs⟩ := lc_inv (vs := [4]) (gf := gnF 4) (tf := testF (op2F (varF 2) (frzF (lstM nilF)) neD)) (ef := op2F (varF 2) (callMF 1 0 (consF (cbF (consF (varF 2) nilF) (lenA 0 F_Board___len__)) nilF) F__law_taken) ixD)
    (fun pre acc ε => ∃ (C : List (List Nat)) (d : D), acc = C.map lotD ∧ ε = [.ow d, s1, .fz (lotsD Ls), s3, .no] ∧ RowOk d ∧ C.length ≤ pre.length ∧ ∀ c ∈ C, c ∈ Ls)
    ((List.range' 0 n).map nD) [] [] [.ow d, s1, .fz (lotsD Ls), s3, .no] ⟨[], d, rfl, rfl, hd, by simp, by simp⟩ (by simp; omega) (by
      rintro pre x acc ε hx ⟨C, d, rfl, rfl, hr, hlen, hs⟩
      have q : neD (lotsD Ls) (.lst []) = some (.bl (!decide (Ls = []))) := nice_lots.neD (by omega) Ls []
      by_cases h0 : Ls = []
      · subst h0
        refine ⟨none, [.ow d, s1, .fz (lotsD []), s3, .no], ?_, C, d, by simp, rfl, hr, by simp; omega, hs⟩
        simp only [decide_true, Bool.not_true] at q
        have ht : testF (op2F (varF 2) (frzF (lstM nilF)) neD) [.ow d, s1, .fz (lotsD []), s3, .fz x] = .ok false [.ow d, s1, .fz (lotsD []), s3, .fz x] := by simp -implicitDefEqProofs only [runF, runM, envOf, envM, List.map_cons, List.map_nil, List.length_cons, List.length_nil, List.cons_append, List.nil_append, List.replicate, List.getElem?_cons_succ, List.getElem?_cons_zero, List.set_cons_succ, List.set_cons_zero, if_true, Bool.false_eq_true, if_false, Nat.reduceAdd, Nat.reduceSub, Nat.zero_add, Nat.zero_le, Bool.not_true, Bool.not_false, Option.some.injEq, Option.bind_some, Nat.reduceLeDiff, bnd_ok, bnd_bad, toS_ok, toS_bad, opt_some, opt_none, vOut_fz, vOut_ow, varF_ap, cF_ap, op2F_ap, op2K_ap, op2K2_ap, op1F_ap, op1K_ap, nilF_ap, consF_ap, consK_ap, consK2_ap, tupF_ap, tupK_ap, lstM_ap, lstK_ap, slget_fz, slget_ow, frzF_ap, frzK_ap, fzM_ap, fzK_ap, cbF_ap, cbK_ap, asB_bl, testF_ap, testK_ap, andT_ap, andTK_ap, orT_ap, orTK_ap, notT_ap, notTK_ap, andV_ap, andVK_ap, orV_ap, orVK_ap, notV_ap, notVK_ap, ifE_ap, ifEK_ap, chainF_ap, chainK_ap, chainK3_ap, chainK2_cmp, thn_nx, thn_rt, thn_bad, seqF_ap, ifS_ap, ifSK_ap, retF_ap, retK_ap, retN_ap, nxF_ap, neverF_ap, dropF_ap, dropK_ap, gnF_ap, gnilF_ap, gconsF_ap, gtupF_ap, optS_some, asgF_ap, asgK_ap, setM_ap, setK_ap, parF_ap, parK_ap, parK2_ap, callO_ret, callF_ap, callK_ap, fin_nx, fin_rt, oAt_ow, ownAt_ap, callMR_ret, callMK2_some, callMK_ap, callM0_some, callMF_ap, finM_nx, finM_rt, oL_ow, ownL_ap, appK2_some, appK_ap, app0_some, appF_ap, pop2_some, pop0_some, popF_ap, setI3_some, setI2_some, setIK2_ap, setI1_some, setIK_ap, setIF_ap, lkAt_fz, lkAt_ow, lookAt_ap, ixP2_ap, ixPK_ap, ixP0_some, ixPF_ap, scOut_some, isSc_bl, isSc_int, opPLK_ap, opPL0_some, opPLF_ap, opPRK_ap, opPRF_ap, nilMs_ap, consMs_ap, consMK_ap, consMK2_ap, par3F_ap, par3K_ap, dinP2_ap, dinP2_t, dinPK_ap, dinPF_ap, toKey_tup, toKeys_tup, toKey_int, dnewM_ap, done1M_ap, done1K_ap, done1K2_ap, dputO_some, dputK2_ap, dput1_some, dputK_ap, dputF_ap, itemsD_lst, itemsD_tup, itemsD_str, itF_ap, itK_ap, enF_ap, enK_lst, enK_tup, enK_str, rng1F_ap, rng2F_ap, rng2K_ap, starK2_ap, starF_ap, starK_lst, starK_tup, starK_str, forS_ap, forK_ap, lcM_ap, lcK_ap, mkL_ap, tYesF_ap, wipeE_nil, wipeE_cons, addD_int, subD_int, negD_int, cmpD_int, intD_int, intD_bl, tupleD_lst, tupleD_tup, listD_tup, eqD_int, neD_int, lenA_lst, lenA_tup, lenA_scr, lenD_lst, isiF_ap, isoF_ap, fldF_ap, fldK_one, joinF_ap, joinK_ap, joinK2_lst, makeR_ret, makeM_ap, makeK_ap, noPF_ap, partF_ap, partK_ap, slF_ap, slK_ap, slK2_ap, slK3_ap, bools_map, allD_rep, sortKF_ap, sortKK_ap, isi2F_ap, propF_ap, propK_ap, min2D_ap, max2D_ap, absD_ap, rg1F_ap, rg1K_ap, rg2F_ap, rg2K_ap, rg2K2_ap, tupRgF_ap, lstRgM_ap, lc2M_ap, lc2K_ap, dnewTM_ap, done1TM_ap, done1TK_ap, done1TK2_ap, listP0_ap, listPF_ap, dgetF_ap, dgetP2_ap, dgetPK_ap, dgetP0_ap, dgetPF_ap, starRgF_ap, starRgK2_ap, remO_ap, remK_ap, rem0_ap, remF_ap, listM_ap, listK_ap, ownL1_ap, extK2_some, extK_lst, ext0_some, extF_ap, forO0_some, q]
        have := lc1_tst (vs := [4]) (gf := gnF 4) (tf := testF (op2F (varF 2) (frzF (lstM nilF)) neD)) (ef := op2F (varF 2) (callMF 1 0 (consF (cbF (consF (varF 2) nilF) (lenA 0 F_Board___len__)) nilF) F__law_taken) ixD) (d := x) (y := .non) (ε := [.ow d, s1, .fz (lotsD []), s3, .no]) rfl ht (fun z => by cases z)
        exact this
      · have h1 : 0 < Ls.length := List.length_pos_iff.2 h0
        rw [decide_eq_false h0, Bool.not_false] at q
        obtain ⟨v, d', e, hv, hr'⟩ := F_taken_nat hr (m := Ls.length) h1 (by omega)
        have e' : F__law_taken d [.int Ls.length] = .ret (nD v) d' := e
        have ll := len_lots (Ls := Ls)
        have xi : ixD (lotsD Ls) (nD v) = some (lotD Ls[v]) := by rw [lotsD, ix_lst (by simpa using hv)]; simp
        refine ⟨some (lotD Ls[v]), [.ow d', s1, .fz (lotsD Ls), s3, .no], ?_, C ++ [Ls[v]], d', by simp, rfl, hr', by simp; omega, ?_⟩
        · have ht : testF (op2F (varF 2) (frzF (lstM nilF)) neD) [.ow d, s1, .fz (lotsD Ls), s3, .fz x] = .ok true [.ow d, s1, .fz (lotsD Ls), s3, .fz x] := by simp -implicitDefEqProofs only [runF, runM, envOf, envM, List.map_cons, List.map_nil, List.length_cons, List.length_nil, List.cons_append, List.nil_append, List.replicate, List.getElem?_cons_succ, List.getElem?_cons_zero, List.set_cons_succ, List.set_cons_zero, if_true, Bool.false_eq_true, if_false, Nat.reduceAdd, Nat.reduceSub, Nat.zero_add, Nat.zero_le, Bool.not_true, Bool.not_false, Option.some.injEq, Option.bind_some, Nat.reduceLeDiff, bnd_ok, bnd_bad, toS_ok, toS_bad, opt_some, opt_none, vOut_fz, vOut_ow, varF_ap, cF_ap, op2F_ap, op2K_ap, op2K2_ap, op1F_ap, op1K_ap, nilF_ap, consF_ap, consK_ap, consK2_ap, tupF_ap, tupK_ap, lstM_ap, lstK_ap, slget_fz, slget_ow, frzF_ap, frzK_ap, fzM_ap, fzK_ap, cbF_ap, cbK_ap, asB_bl, testF_ap, testK_ap, andT_ap, andTK_ap, orT_ap, orTK_ap, notT_ap, notTK_ap, andV_ap, andVK_ap, orV_ap, orVK_ap, notV_ap, notVK_ap, ifE_ap, ifEK_ap, chainF_ap, chainK_ap, chainK3_ap, chainK2_cmp, thn_nx, thn_rt, thn_bad, seqF_ap, ifS_ap, ifSK_ap, retF_ap, retK_ap, retN_ap, nxF_ap, neverF_ap, dropF_ap, dropK_ap, gnF_ap, gnilF_ap, gconsF_ap, gtupF_ap, optS_some, asgF_ap, asgK_ap, setM_ap, setK_ap, parF_ap, parK_ap, parK2_ap, callO_ret, callF_ap, callK_ap, fin_nx, fin_rt, oAt_ow, ownAt_ap, callMR_ret, callMK2_some, callMK_ap, callM0_some, callMF_ap, finM_nx, finM_rt, oL_ow, ownL_ap, appK2_some, appK_ap, app0_some, appF_ap, pop2_some, pop0_some, popF_ap, setI3_some, setI2_some, setIK2_ap, setI1_some, setIK_ap, setIF_ap, lkAt_fz, lkAt_ow, lookAt_ap, ixP2_ap, ixPK_ap, ixP0_some, ixPF_ap, scOut_some, isSc_bl, isSc_int, opPLK_ap, opPL0_some, opPLF_ap, opPRK_ap, opPRF_ap, nilMs_ap, consMs_ap, consMK_ap, consMK2_ap, par3F_ap, par3K_ap, dinP2_ap, dinP2_t, dinPK_ap, dinPF_ap, toKey_tup, toKeys_tup, toKey_int, dnewM_ap, done1M_ap, done1K_ap, done1K2_ap, dputO_some, dputK2_ap, dput1_some, dputK_ap, dputF_ap, itemsD_lst, itemsD_tup, itemsD_str, itF_ap, itK_ap, enF_ap, enK_lst, enK_tup, enK_str, rng1F_ap, rng2F_ap, rng2K_ap, starK2_ap, starF_ap, starK_lst, starK_tup, starK_str, forS_ap, forK_ap, lcM_ap, lcK_ap, mkL_ap, tYesF_ap, wipeE_nil, wipeE_cons, addD_int, subD_int, negD_int, cmpD_int, intD_int, intD_bl, tupleD_lst, tupleD_tup, listD_tup, eqD_int, neD_int, lenA_lst, lenA_tup, lenA_scr, lenD_lst, isiF_ap, isoF_ap, fldF_ap, fldK_one, joinF_ap, joinK_ap, joinK2_lst, makeR_ret, makeM_ap, makeK_ap, noPF_ap, partF_ap, partK_ap, slF_ap, slK_ap, slK2_ap, slK3_ap, bools_map, allD_rep, sortKF_ap, sortKK_ap, isi2F_ap, propF_ap, propK_ap, min2D_ap, max2D_ap, absD_ap, rg1F_ap, rg1K_ap, rg2F_ap, rg2K_ap, rg2K2_ap, tupRgF_ap, lstRgM_ap, lc2M_ap, lc2K_ap, dnewTM_ap, done1TM_ap, done1TK_ap, done1TK2_ap, listP0_ap, listPF_ap, dgetF_ap, dgetP2_ap, dgetPK_ap, dgetP0_ap, dgetPF_ap, starRgF_ap, starRgK2_ap, remO_ap, remK_ap, rem0_ap, remF_ap, listM_ap, listK_ap, ownL1_ap, extK2_some, extK_lst, ext0_some, extF_ap, forO0_some, q]
          have he : op2F (varF 2) (callMF 1 0 (consF (cbF (consF (varF 2) nilF) (lenA 0 F_Board___len__)) nilF) F__law_taken) ixD [.ow d, s1, .fz (lotsD Ls), s3, .fz x] = .ok (lotD Ls[v]) [.ow d', s1, .fz (lotsD Ls), s3, .fz x] := by simp -implicitDefEqProofs only [runF, runM, envOf, envM, List.map_cons, List.map_nil, List.length_cons, List.length_nil, List.cons_append, List.nil_append, List.replicate, List.getElem?_cons_succ, List.getElem?_cons_zero, List.set_cons_succ, List.set_cons_zero, if_true, Bool.false_eq_true, if_false, Nat.reduceAdd, Nat.reduceSub, Nat.zero_add, Nat.zero_le, Bool.not_true, Bool.not_false, Option.some.injEq, Option.bind_some, Nat.reduceLeDiff, bnd_ok, bnd_bad, toS_ok, toS_bad, opt_some, opt_none, vOut_fz, vOut_ow, varF_ap, cF_ap, op2F_ap, op2K_ap, op2K2_ap, op1F_ap, op1K_ap, nilF_ap, consF_ap, consK_ap, consK2_ap, tupF_ap, tupK_ap, lstM_ap, lstK_ap, slget_fz, slget_ow, frzF_ap, frzK_ap, fzM_ap, fzK_ap, cbF_ap, cbK_ap, asB_bl, testF_ap, testK_ap, andT_ap, andTK_ap, orT_ap, orTK_ap, notT_ap, notTK_ap, andV_ap, andVK_ap, orV_ap, orVK_ap, notV_ap, notVK_ap, ifE_ap, ifEK_ap, chainF_ap, chainK_ap, chainK3_ap, chainK2_cmp, thn_nx, thn_rt, thn_bad, seqF_ap, ifS_ap, ifSK_ap, retF_ap, retK_ap, retN_ap, nxF_ap, neverF_ap, dropF_ap, dropK_ap, gnF_ap, gnilF_ap, gconsF_ap, gtupF_ap, optS_some, asgF_ap, asgK_ap, setM_ap, setK_ap, parF_ap, parK_ap, parK2_ap, callO_ret, callF_ap, callK_ap, fin_nx, fin_rt, oAt_ow, ownAt_ap, callMR_ret, callMK2_some, callMK_ap, callM0_some, callMF_ap, finM_nx, finM_rt, oL_ow, ownL_ap, appK2_some, appK_ap, app0_some, appF_ap, pop2_some, pop0_some, popF_ap, setI3_some, setI2_some, setIK2_ap, setI1_some, setIK_ap, setIF_ap, lkAt_fz, lkAt_ow, lookAt_ap, ixP2_ap, ixPK_ap, ixP0_some, ixPF_ap, scOut_some, isSc_bl, isSc_int, opPLK_ap, opPL0_some, opPLF_ap, opPRK_ap, opPRF_ap, nilMs_ap, consMs_ap, consMK_ap, consMK2_ap, par3F_ap, par3K_ap, dinP2_ap, dinP2_t, dinPK_ap, dinPF_ap, toKey_tup, toKeys_tup, toKey_int, dnewM_ap, done1M_ap, done1K_ap, done1K2_ap, dputO_some, dputK2_ap, dput1_some, dputK_ap, dputF_ap, itemsD_lst, itemsD_tup, itemsD_str, itF_ap, itK_ap, enF_ap, enK_lst, enK_tup, enK_str, rng1F_ap, rng2F_ap, rng2K_ap, starK2_ap, starF_ap, starK_lst, starK_tup, starK_str, forS_ap, forK_ap, lcM_ap, lcK_ap, mkL_ap, tYesF_ap, wipeE_nil, wipeE_cons, addD_int, subD_int, negD_int, cmpD_int, intD_int, intD_bl, tupleD_lst, tupleD_tup, listD_tup, eqD_int, neD_int, lenA_lst, lenA_tup, lenA_scr, lenD_lst, isiF_ap, isoF_ap, fldF_ap, fldK_one, joinF_ap, joinK_ap, joinK2_lst, makeR_ret, makeM_ap, makeK_ap, noPF_ap, partF_ap, partK_ap, slF_ap, slK_ap, slK2_ap, slK3_ap, bools_map, allD_rep, sortKF_ap, sortKK_ap, isi2F_ap, propF_ap, propK_ap, min2D_ap, max2D_ap, absD_ap, rg1F_ap, rg1K_ap, rg2F_ap, rg2K_ap, rg2K2_ap, tupRgF_ap, lstRgM_ap, lc2M_ap, lc2K_ap, dnewTM_ap, done1TM_ap, done1TK_ap, done1TK2_ap, listP0_ap, listPF_ap, dgetF_ap, dgetP2_ap, dgetPK_ap, dgetP0_ap, dgetPF_ap, starRgF_ap, starRgK2_ap, remO_ap, remK_ap, rem0_ap, remF_ap, listM_ap, listK_ap, ownL1_ap, extK2_some, extK_lst, ext0_some, extF_ap, forO0_some, ll, e', xi]
          have hg : gnF 4 x [.ow d, s1, .fz (lotsD Ls), s3, .no] = some [.ow d, s1, .fz (lotsD Ls), s3, .fz x] := rfl
          simp only [lc1, hg, ht, he]
          rfl
        · intro c hc
          rcases List.mem_append.1 hc with h | h
          · exact hs c h
          · simp at h; subst h; exact List.getElem_mem hv)
  exact ⟨C, d', e, hr, by simpa using hlen, hs⟩
theorem F__law_lost_ok {t : Tb} (ok : BOk t) {d : D} (hd : RowOk d) : ∃ C d', F__law_lost d [clsD t] = .ret (ordD C) d' ∧ RowOk d' ∧ Brk t C := by
  have hl := led_len ok
  have x0 := F__law_led_eq ok
  obtain ⟨v, d1, e1, hv, r1⟩ := F_taken_lit hd 3 (by omega) (by omega) (i := 3) rfl
  obtain ⟨C, d2, e2, r2, hc, hm⟩ := lost_loop hl (.fz (clsD t)) .no (n := v) (by omega) r1
  have x2 : ∀ ε : Env, rng1K (nD v) ε = .ok ((List.range' 0 v).map nD) ε := rng_nat v (by omega)
  have x3 : D.lst (C.map lotD) = lotsD C := rfl
  have x4 := sset_dist (Ls := C) (by omega)
  have x5 : tupleD [lotsD (dist C)] = some (ordD (dist C)) := rfl
  refine ⟨dist C, d2, ?_, r2, fun c h => hm c (dist_mem.1 h), dist_asc C⟩
  simp -implicitDefEqProofs only [runF, runM, envOf, envM, List.map_cons, List.map_nil, List.length_cons, List.length_nil, List.cons_append, List.nil_append, List.replicate, List.getElem?_cons_succ, List.getElem?_cons_zero, List.set_cons_succ, List.set_cons_zero, if_true, Bool.false_eq_true, if_false, Nat.reduceAdd, Nat.reduceSub, Nat.zero_add, Nat.zero_le, Bool.not_true, Bool.not_false, Option.some.injEq, Option.bind_some, Nat.reduceLeDiff, bnd_ok, bnd_bad, toS_ok, toS_bad, opt_some, opt_none, vOut_fz, vOut_ow, varF_ap, cF_ap, op2F_ap, op2K_ap, op2K2_ap, op1F_ap, op1K_ap, nilF_ap, consF_ap, consK_ap, consK2_ap, tupF_ap, tupK_ap, lstM_ap, lstK_ap, slget_fz, slget_ow, frzF_ap, frzK_ap, fzM_ap, fzK_ap, cbF_ap, cbK_ap, asB_bl, testF_ap, testK_ap, andT_ap, andTK_ap, orT_ap, orTK_ap, notT_ap, notTK_ap, andV_ap, andVK_ap, orV_ap, orVK_ap, notV_ap, notVK_ap, ifE_ap, ifEK_ap, chainF_ap, chainK_ap, chainK3_ap, chainK2_cmp, thn_nx, thn_rt, thn_bad, seqF_ap, ifS_ap, ifSK_ap, retF_ap, retK_ap, retN_ap, nxF_ap, neverF_ap, dropF_ap, dropK_ap, gnF_ap, gnilF_ap, gconsF_ap, gtupF_ap, optS_some, asgF_ap, asgK_ap, setM_ap, setK_ap, parF_ap, parK_ap, parK2_ap, callO_ret, callF_ap, callK_ap, fin_nx, fin_rt, oAt_ow, ownAt_ap, callMR_ret, callMK2_some, callMK_ap, callM0_some, callMF_ap, finM_nx, finM_rt, oL_ow, ownL_ap, appK2_some, appK_ap, app0_some, appF_ap, pop2_some, pop0_some, popF_ap, setI3_some, setI2_some, setIK2_ap, setI1_some, setIK_ap, setIF_ap, lkAt_fz, lkAt_ow, lookAt_ap, ixP2_ap, ixPK_ap, ixP0_some, ixPF_ap, scOut_some, isSc_bl, isSc_int, opPLK_ap, opPL0_some, opPLF_ap, opPRK_ap, opPRF_ap, nilMs_ap, consMs_ap, consMK_ap, consMK2_ap, par3F_ap, par3K_ap, dinP2_ap, dinP2_t, dinPK_ap, dinPF_ap, toKey_tup, toKeys_tup, toKey_int, dnewM_ap, done1M_ap, done1K_ap, done1K2_ap, dputO_some, dputK2_ap, dput1_some, dputK_ap, dputF_ap, itemsD_lst, itemsD_tup, itemsD_str, itF_ap, itK_ap, enF_ap, enK_lst, enK_tup, enK_str, rng1F_ap, rng2F_ap, rng2K_ap, starK2_ap, starF_ap, starK_lst, starK_tup, starK_str, forS_ap, forK_ap, lcM_ap, lcK_ap, mkL_ap, tYesF_ap, wipeE_nil, wipeE_cons, addD_int, subD_int, negD_int, cmpD_int, intD_int, intD_bl, tupleD_lst, tupleD_tup, listD_tup, eqD_int, neD_int, lenA_lst, lenA_tup, lenA_scr, lenD_lst, isiF_ap, isoF_ap, fldF_ap, fldK_one, joinF_ap, joinK_ap, joinK2_lst, makeR_ret, makeM_ap, makeK_ap, noPF_ap, partF_ap, partK_ap, slF_ap, slK_ap, slK2_ap, slK3_ap, bools_map, allD_rep, sortKF_ap, sortKK_ap, isi2F_ap, propF_ap, propK_ap, min2D_ap, max2D_ap, absD_ap, rg1F_ap, rg1K_ap, rg2F_ap, rg2K_ap, rg2K2_ap, tupRgF_ap, lstRgM_ap, lc2M_ap, lc2K_ap, dnewTM_ap, done1TM_ap, done1TK_ap, done1TK2_ap, listP0_ap, listPF_ap, dgetF_ap, dgetP2_ap, dgetPK_ap, dgetP0_ap, dgetPF_ap, starRgF_ap, starRgK2_ap, remO_ap, remK_ap, rem0_ap, remF_ap, listM_ap, listK_ap, ownL1_ap, extK2_some, extK_lst, ext0_some, extF_ap, forO0_some, F__law_lost, B__law_lost, x0, e1, x2, e2, x3, x4, x5]
theorem ne_self {d : D} (h : okPy d = true) : neD d d = some (.bl false) := by
  have e : eqB d d = true := PySem.SeqAt.eqv_refl _ (by
    have := h
    simp only [okPy, PySem.SeqAt.shaped, Bool.and_eq_true] at this
    exact this.1)
  simp only [ML.neD, h, e, Bool.and_self, if_true, Bool.not_true]
theorem okPy_lns {t : List (List Nat)} (h : ∀ r ∈ t, ∀ c ∈ r, c < 1114112) : PySem.PyData.canLayAll0 (toPyL (t.map lnD)) = true ∧ PySem.PyData.depthAll (toPyL (t.map lnD)) = 0 := by
  induction t with
  | nil => exact ⟨rfl, rfl⟩
  | cons r t ih =>
    have h0 := h r (by simp)
    obtain ⟨i1, i2⟩ := ih fun x hx => h x (by simp [hx])
    have hs : PySem.PyData.strOk ⟨r.toArray⟩ = true := by
      simp [PySem.PyData.strOk]
      intro c hc
      exact h0 c hc
    simp only [List.map_cons, toPyL, toPy, lnD, PySem.PyData.canLayAll0, PySem.PyData.canLay0, PySem.PyData.depthAll, PySem.PyData.depth, hs, i1, i2]
    simp
theorem okPy_cls {t : Tb} (ok : BOk t) : okPy (clsD t) = true := by
  obtain ⟨h1, h2⟩ := okPy_lns (t := t) fun r hr c hc => sg_lt (ok.sg r hr c hc)
  simp [okPy, clsD, toPy, PySem.SeqAt.shaped, PySem.PyData.canLay0, PySem.PyData.depth, h1, h2]
theorem okPy_ln {r : List Nat} (h : ∀ c ∈ r, c < 1114112) : okPy (lnD r) = true := by
  have hs : PySem.PyData.strOk ⟨r.toArray⟩ = true := by
    simp [PySem.PyData.strOk]
    intro c hc
    exact h c hc
  simp [okPy, lnD, toPy, PySem.SeqAt.shaped, PySem.PyData.canLay0, PySem.PyData.depth, hs]
theorem law_loop {t : Tb} (ok : BOk t) {C : List (List Nat)} (h : Brk t C) (s0 s1 s2 s5 : Sl) : ∃ ε', forF (gnF 8) B_law_L1 ((List.range' 0 (thr t)).map nD) [s0, s1, s2, .fz (ordD C), .fz (bdD t), s5, .fz (.int (thr t)), .fz (lotsD (clL (cutT t C))), .no, .no, .no, .no] = .nx ε' := by
  have ht := ok.thr10
  obtain ⟨ok', -⟩ := cutT_ok ok h.inn
  have et := cutT_thr ok h.inn
  have hc := clL_len ok'
  obtain ⟨ε', e, -⟩ := forL (gf := gnF 8) (F := B_law_L1) nD (List.range' 0 (thr t))
    (fun i ε => ∃ t8 t9, ε = [s0, s1, s2, .fz (ordD C), .fz (bdD t), s5, .fz (.int (thr t)), .fz (lotsD (clL (cutT t C))), t8, t9, .no, .no]) [s0, s1, s2, .fz (ordD C), .fz (bdD t), s5, .fz (.int (thr t)), .fz (lotsD (clL (cutT t C))), .no, .no, .no, .no] ⟨.no, .no, rfl⟩ (by
      rintro s hs ε ⟨t8, t9, rfl⟩
      have hs' : s < thr t := by simpa using hs
      have ei : (List.range' 0 (thr t))[s] = s := by simp
      rw [ei]
      refine ⟨[s0, s1, s2, .fz (ordD C), .fz (bdD t), s5, .fz (.int (thr t)), .fz (lotsD (clL (cutT t C))), .fz (nD s), t9, .no, .no], _, rfl, ?_, .fz (nD s), .fz (lotD (leastL (cutT t C) [s])), rfl⟩
      have eit : itemsD (lotsD (clL (cutT t C))) = some ((clL (cutT t C)).map lotD) := rfl
      have el : lcL [10] (gnF 10) (testF (op2F (varF 8) (varF 10) inD)) (varF 10) ((clL (cutT t C)).map lotD) [] [s0, s1, s2, .fz (ordD C), .fz (bdD t), s5, .fz (.int (thr t)), .fz (lotsD (clL (cutT t C))), .fz (nD s), t9, .no, .no]
          = .ok (((clL (cutT t C)).filter fun L => decide (s ∈ L)).map lotD) [s0, s1, s2, .fz (ordD C), .fz (bdD t), s5, .fz (.int (thr t)), .fz (lotsD (clL (cutT t C))), .fz (nD s), t9, .no, .no] := by
        refine lc_fltY lotD _ lotD (clL (cutT t C)) (by omega) fun L hL => ⟨[s0, s1, s2, .fz (ordD C), .fz (bdD t), s5, .fz (.int (thr t)), .fz (lotsD (clL (cutT t C))), .fz (nD s), t9, .fz (lotD L), .no], rfl, rfl, ?_, fun _ => rfl⟩
        have y := inD_lot L s
        simp -implicitDefEqProofs only [runF, runM, envOf, envM, List.map_cons, List.map_nil, List.length_cons, List.length_nil, List.cons_append, List.nil_append, List.replicate, List.getElem?_cons_succ, List.getElem?_cons_zero, List.set_cons_succ, List.set_cons_zero, if_true, Bool.false_eq_true, if_false, Nat.reduceAdd, Nat.reduceSub, Nat.zero_add, Nat.zero_le, Bool.not_true, Bool.not_false, Option.some.injEq, Option.bind_some, Nat.reduceLeDiff, bnd_ok, bnd_bad, toS_ok, toS_bad, opt_some, opt_none, vOut_fz, vOut_ow, varF_ap, cF_ap, op2F_ap, op2K_ap, op2K2_ap, op1F_ap, op1K_ap, nilF_ap, consF_ap, consK_ap, consK2_ap, tupF_ap, tupK_ap, lstM_ap, lstK_ap, slget_fz, slget_ow, frzF_ap, frzK_ap, fzM_ap, fzK_ap, cbF_ap, cbK_ap, asB_bl, testF_ap, testK_ap, andT_ap, andTK_ap, orT_ap, orTK_ap, notT_ap, notTK_ap, andV_ap, andVK_ap, orV_ap, orVK_ap, notV_ap, notVK_ap, ifE_ap, ifEK_ap, chainF_ap, chainK_ap, chainK3_ap, chainK2_cmp, thn_nx, thn_rt, thn_bad, seqF_ap, ifS_ap, ifSK_ap, retF_ap, retK_ap, retN_ap, nxF_ap, neverF_ap, dropF_ap, dropK_ap, gnF_ap, gnilF_ap, gconsF_ap, gtupF_ap, optS_some, asgF_ap, asgK_ap, setM_ap, setK_ap, parF_ap, parK_ap, parK2_ap, callO_ret, callF_ap, callK_ap, fin_nx, fin_rt, oAt_ow, ownAt_ap, callMR_ret, callMK2_some, callMK_ap, callM0_some, callMF_ap, finM_nx, finM_rt, oL_ow, ownL_ap, appK2_some, appK_ap, app0_some, appF_ap, pop2_some, pop0_some, popF_ap, setI3_some, setI2_some, setIK2_ap, setI1_some, setIK_ap, setIF_ap, lkAt_fz, lkAt_ow, lookAt_ap, ixP2_ap, ixPK_ap, ixP0_some, ixPF_ap, scOut_some, isSc_bl, isSc_int, opPLK_ap, opPL0_some, opPLF_ap, opPRK_ap, opPRF_ap, nilMs_ap, consMs_ap, consMK_ap, consMK2_ap, par3F_ap, par3K_ap, dinP2_ap, dinP2_t, dinPK_ap, dinPF_ap, toKey_tup, toKeys_tup, toKey_int, dnewM_ap, done1M_ap, done1K_ap, done1K2_ap, dputO_some, dputK2_ap, dput1_some, dputK_ap, dputF_ap, itemsD_lst, itemsD_tup, itemsD_str, itF_ap, itK_ap, enF_ap, enK_lst, enK_tup, enK_str, rng1F_ap, rng2F_ap, rng2K_ap, starK2_ap, starF_ap, starK_lst, starK_tup, starK_str, forS_ap, forK_ap, lcM_ap, lcK_ap, mkL_ap, tYesF_ap, wipeE_nil, wipeE_cons, addD_int, subD_int, negD_int, cmpD_int, intD_int, intD_bl, tupleD_lst, tupleD_tup, listD_tup, eqD_int, neD_int, lenA_lst, lenA_tup, lenA_scr, lenD_lst, isiF_ap, isoF_ap, fldF_ap, fldK_one, joinF_ap, joinK_ap, joinK2_lst, makeR_ret, makeM_ap, makeK_ap, noPF_ap, partF_ap, partK_ap, slF_ap, slK_ap, slK2_ap, slK3_ap, bools_map, allD_rep, sortKF_ap, sortKK_ap, isi2F_ap, propF_ap, propK_ap, min2D_ap, max2D_ap, absD_ap, rg1F_ap, rg1K_ap, rg2F_ap, rg2K_ap, rg2K2_ap, tupRgF_ap, lstRgM_ap, lc2M_ap, lc2K_ap, dnewTM_ap, done1TM_ap, done1TK_ap, done1TK2_ap, listP0_ap, listPF_ap, dgetF_ap, dgetP2_ap, dgetPK_ap, dgetP0_ap, dgetPF_ap, starRgF_ap, starRgK2_ap, remO_ap, remK_ap, rem0_ap, remF_ap, listM_ap, listK_ap, ownL1_ap, extK2_some, extK_lst, ext0_some, extF_ap, forO0_some, y]
      have eh := head_least ok' (s := s) (by omega)
      have e4 : ixD (.lst (((clL (cutT t C)).filter fun L => decide (s ∈ L)).map lotD)) (.int 0) = some (lotD (leastL (cutT t C) [s])) := by
        cases hq : (clL (cutT t C)).filter fun L => decide (s ∈ L) with
        | nil => rw [hq] at eh; cases eh
        | cons a l => rw [hq] at eh; simp at eh; subst eh; simp [ixD, atI, ixN]
      have x1 := F_comes_along_eq ok h hs'
      have x2 := F_sight_of_eq ok h hs'
      have n1 := nice_lot.neD (by omega) (leastL (cutT t C) [s]) (leastL (cutT t C) [s])
      simp only [decide_true, Bool.not_true] at n1
      generalize leastL (cutT t C) [s] = L at *
      have x3 : ∀ ε : Env, rng1K (.int (thr t)) ε = .ok ((List.range' 0 (thr t)).map nD) ε := rng_nat (thr t) (by omega)
      have el2 : lcL [11] (gnF 11) tYesF (ifE (testF (op2F (varF 11) (varF 9) inD)) (cF (.str "+")) (cF (.str "-"))) ((List.range' 0 (thr t)).map nD) [] [s0, s1, s2, .fz (ordD C), .fz (bdD t), s5, .fz (.int (thr t)), .fz (lotsD (clL (cutT t C))), .fz (nD s), .fz (lotD L), .no, .no]
          = .ok ((sigL (thr t) L).map sgD) [s0, s1, s2, .fz (ordD C), .fz (bdD t), s5, .fz (.int (thr t)), .fz (lotsD (clL (cutT t C))), .fz (nD s), .fz (lotD L), .no, .no] := by
        have q : (sigL (thr t) L).map sgD = (List.range' 0 (thr t)).map fun s => sgD (if s ∈ L then 43 else 45) := by simp [sigL]
        rw [q]
        refine lc_mapY (vs := [11]) (gf := gnF 11) (ε := [s0, s1, s2, .fz (ordD C), .fz (bdD t), s5, .fz (.int (thr t)), .fz (lotsD (clL (cutT t C))), .fz (nD s), .fz (lotD L), .no, .no]) nD _ (List.range' 0 (thr t)) (by simp; omega) fun x hx => ⟨[s0, s1, s2, .fz (ordD C), .fz (bdD t), s5, .fz (.int (thr t)), .fz (lotsD (clL (cutT t C))), .fz (nD s), .fz (lotD L), .no, .fz (nD x)], [s0, s1, s2, .fz (ordD C), .fz (bdD t), s5, .fz (.int (thr t)), .fz (lotsD (clL (cutT t C))), .fz (nD s), .fz (lotD L), .no, .fz (nD x)], rfl, rfl, ?_⟩
        have y := inD_lot L x
        by_cases hx : x ∈ L
        · rw [decide_eq_true hx] at y
          simp -implicitDefEqProofs only [runF, runM, envOf, envM, List.map_cons, List.map_nil, List.length_cons, List.length_nil, List.cons_append, List.nil_append, List.replicate, List.getElem?_cons_succ, List.getElem?_cons_zero, List.set_cons_succ, List.set_cons_zero, if_true, Bool.false_eq_true, if_false, Nat.reduceAdd, Nat.reduceSub, Nat.zero_add, Nat.zero_le, Bool.not_true, Bool.not_false, Option.some.injEq, Option.bind_some, Nat.reduceLeDiff, bnd_ok, bnd_bad, toS_ok, toS_bad, opt_some, opt_none, vOut_fz, vOut_ow, varF_ap, cF_ap, op2F_ap, op2K_ap, op2K2_ap, op1F_ap, op1K_ap, nilF_ap, consF_ap, consK_ap, consK2_ap, tupF_ap, tupK_ap, lstM_ap, lstK_ap, slget_fz, slget_ow, frzF_ap, frzK_ap, fzM_ap, fzK_ap, cbF_ap, cbK_ap, asB_bl, testF_ap, testK_ap, andT_ap, andTK_ap, orT_ap, orTK_ap, notT_ap, notTK_ap, andV_ap, andVK_ap, orV_ap, orVK_ap, notV_ap, notVK_ap, ifE_ap, ifEK_ap, chainF_ap, chainK_ap, chainK3_ap, chainK2_cmp, thn_nx, thn_rt, thn_bad, seqF_ap, ifS_ap, ifSK_ap, retF_ap, retK_ap, retN_ap, nxF_ap, neverF_ap, dropF_ap, dropK_ap, gnF_ap, gnilF_ap, gconsF_ap, gtupF_ap, optS_some, asgF_ap, asgK_ap, setM_ap, setK_ap, parF_ap, parK_ap, parK2_ap, callO_ret, callF_ap, callK_ap, fin_nx, fin_rt, oAt_ow, ownAt_ap, callMR_ret, callMK2_some, callMK_ap, callM0_some, callMF_ap, finM_nx, finM_rt, oL_ow, ownL_ap, appK2_some, appK_ap, app0_some, appF_ap, pop2_some, pop0_some, popF_ap, setI3_some, setI2_some, setIK2_ap, setI1_some, setIK_ap, setIF_ap, lkAt_fz, lkAt_ow, lookAt_ap, ixP2_ap, ixPK_ap, ixP0_some, ixPF_ap, scOut_some, isSc_bl, isSc_int, opPLK_ap, opPL0_some, opPLF_ap, opPRK_ap, opPRF_ap, nilMs_ap, consMs_ap, consMK_ap, consMK2_ap, par3F_ap, par3K_ap, dinP2_ap, dinP2_t, dinPK_ap, dinPF_ap, toKey_tup, toKeys_tup, toKey_int, dnewM_ap, done1M_ap, done1K_ap, done1K2_ap, dputO_some, dputK2_ap, dput1_some, dputK_ap, dputF_ap, itemsD_lst, itemsD_tup, itemsD_str, itF_ap, itK_ap, enF_ap, enK_lst, enK_tup, enK_str, rng1F_ap, rng2F_ap, rng2K_ap, starK2_ap, starF_ap, starK_lst, starK_tup, starK_str, forS_ap, forK_ap, lcM_ap, lcK_ap, mkL_ap, tYesF_ap, wipeE_nil, wipeE_cons, addD_int, subD_int, negD_int, cmpD_int, intD_int, intD_bl, tupleD_lst, tupleD_tup, listD_tup, eqD_int, neD_int, lenA_lst, lenA_tup, lenA_scr, lenD_lst, isiF_ap, isoF_ap, fldF_ap, fldK_one, joinF_ap, joinK_ap, joinK2_lst, makeR_ret, makeM_ap, makeK_ap, noPF_ap, partF_ap, partK_ap, slF_ap, slK_ap, slK2_ap, slK3_ap, bools_map, allD_rep, sortKF_ap, sortKK_ap, isi2F_ap, propF_ap, propK_ap, min2D_ap, max2D_ap, absD_ap, rg1F_ap, rg1K_ap, rg2F_ap, rg2K_ap, rg2K2_ap, tupRgF_ap, lstRgM_ap, lc2M_ap, lc2K_ap, dnewTM_ap, done1TM_ap, done1TK_ap, done1TK2_ap, listP0_ap, listPF_ap, dgetF_ap, dgetP2_ap, dgetPK_ap, dgetP0_ap, dgetPF_ap, starRgF_ap, starRgK2_ap, remO_ap, remK_ap, rem0_ap, remF_ap, listM_ap, listK_ap, ownL1_ap, extK2_some, extK_lst, ext0_some, extF_ap, forO0_some, y]
          rw [if_pos hx, str_plus]
        · rw [decide_eq_false hx] at y
          simp -implicitDefEqProofs only [runF, runM, envOf, envM, List.map_cons, List.map_nil, List.length_cons, List.length_nil, List.cons_append, List.nil_append, List.replicate, List.getElem?_cons_succ, List.getElem?_cons_zero, List.set_cons_succ, List.set_cons_zero, if_true, Bool.false_eq_true, if_false, Nat.reduceAdd, Nat.reduceSub, Nat.zero_add, Nat.zero_le, Bool.not_true, Bool.not_false, Option.some.injEq, Option.bind_some, Nat.reduceLeDiff, bnd_ok, bnd_bad, toS_ok, toS_bad, opt_some, opt_none, vOut_fz, vOut_ow, varF_ap, cF_ap, op2F_ap, op2K_ap, op2K2_ap, op1F_ap, op1K_ap, nilF_ap, consF_ap, consK_ap, consK2_ap, tupF_ap, tupK_ap, lstM_ap, lstK_ap, slget_fz, slget_ow, frzF_ap, frzK_ap, fzM_ap, fzK_ap, cbF_ap, cbK_ap, asB_bl, testF_ap, testK_ap, andT_ap, andTK_ap, orT_ap, orTK_ap, notT_ap, notTK_ap, andV_ap, andVK_ap, orV_ap, orVK_ap, notV_ap, notVK_ap, ifE_ap, ifEK_ap, chainF_ap, chainK_ap, chainK3_ap, chainK2_cmp, thn_nx, thn_rt, thn_bad, seqF_ap, ifS_ap, ifSK_ap, retF_ap, retK_ap, retN_ap, nxF_ap, neverF_ap, dropF_ap, dropK_ap, gnF_ap, gnilF_ap, gconsF_ap, gtupF_ap, optS_some, asgF_ap, asgK_ap, setM_ap, setK_ap, parF_ap, parK_ap, parK2_ap, callO_ret, callF_ap, callK_ap, fin_nx, fin_rt, oAt_ow, ownAt_ap, callMR_ret, callMK2_some, callMK_ap, callM0_some, callMF_ap, finM_nx, finM_rt, oL_ow, ownL_ap, appK2_some, appK_ap, app0_some, appF_ap, pop2_some, pop0_some, popF_ap, setI3_some, setI2_some, setIK2_ap, setI1_some, setIK_ap, setIF_ap, lkAt_fz, lkAt_ow, lookAt_ap, ixP2_ap, ixPK_ap, ixP0_some, ixPF_ap, scOut_some, isSc_bl, isSc_int, opPLK_ap, opPL0_some, opPLF_ap, opPRK_ap, opPRF_ap, nilMs_ap, consMs_ap, consMK_ap, consMK2_ap, par3F_ap, par3K_ap, dinP2_ap, dinP2_t, dinPK_ap, dinPF_ap, toKey_tup, toKeys_tup, toKey_int, dnewM_ap, done1M_ap, done1K_ap, done1K2_ap, dputO_some, dputK2_ap, dput1_some, dputK_ap, dputF_ap, itemsD_lst, itemsD_tup, itemsD_str, itF_ap, itK_ap, enF_ap, enK_lst, enK_tup, enK_str, rng1F_ap, rng2F_ap, rng2K_ap, starK2_ap, starF_ap, starK_lst, starK_tup, starK_str, forS_ap, forK_ap, lcM_ap, lcK_ap, mkL_ap, tYesF_ap, wipeE_nil, wipeE_cons, addD_int, subD_int, negD_int, cmpD_int, intD_int, intD_bl, tupleD_lst, tupleD_tup, listD_tup, eqD_int, neD_int, lenA_lst, lenA_tup, lenA_scr, lenD_lst, isiF_ap, isoF_ap, fldF_ap, fldK_one, joinF_ap, joinK_ap, joinK2_lst, makeR_ret, makeM_ap, makeK_ap, noPF_ap, partF_ap, partK_ap, slF_ap, slK_ap, slK2_ap, slK3_ap, bools_map, allD_rep, sortKF_ap, sortKK_ap, isi2F_ap, propF_ap, propK_ap, min2D_ap, max2D_ap, absD_ap, rg1F_ap, rg1K_ap, rg2F_ap, rg2K_ap, rg2K2_ap, tupRgF_ap, lstRgM_ap, lc2M_ap, lc2K_ap, dnewTM_ap, done1TM_ap, done1TK_ap, done1TK2_ap, listP0_ap, listPF_ap, dgetF_ap, dgetP2_ap, dgetPK_ap, dgetP0_ap, dgetPF_ap, starRgF_ap, starRgK2_ap, remO_ap, remK_ap, rem0_ap, remF_ap, listM_ap, listK_ap, ownL1_ap, extK2_some, extK_lst, ext0_some, extF_ap, forO0_some, y]
          rw [if_neg hx, str_minus]
      have ej := join_sg (cs := sigL (thr t) L) (by rw [sig_len]; omega)
      have n2 := ne_self (okPy_ln (r := sigL (thr t) L) fun c hc => by
        simp only [sigL, List.mem_map] at hc
        obtain ⟨x, -, rfl⟩ := hc
        split <;> omega)
      simp -implicitDefEqProofs only [runF, runM, envOf, envM, List.map_cons, List.map_nil, List.length_cons, List.length_nil, List.cons_append, List.nil_append, List.replicate, List.getElem?_cons_succ, List.getElem?_cons_zero, List.set_cons_succ, List.set_cons_zero, if_true, Bool.false_eq_true, if_false, Nat.reduceAdd, Nat.reduceSub, Nat.zero_add, Nat.zero_le, Bool.not_true, Bool.not_false, Option.some.injEq, Option.bind_some, Nat.reduceLeDiff, bnd_ok, bnd_bad, toS_ok, toS_bad, opt_some, opt_none, vOut_fz, vOut_ow, varF_ap, cF_ap, op2F_ap, op2K_ap, op2K2_ap, op1F_ap, op1K_ap, nilF_ap, consF_ap, consK_ap, consK2_ap, tupF_ap, tupK_ap, lstM_ap, lstK_ap, slget_fz, slget_ow, frzF_ap, frzK_ap, fzM_ap, fzK_ap, cbF_ap, cbK_ap, asB_bl, testF_ap, testK_ap, andT_ap, andTK_ap, orT_ap, orTK_ap, notT_ap, notTK_ap, andV_ap, andVK_ap, orV_ap, orVK_ap, notV_ap, notVK_ap, ifE_ap, ifEK_ap, chainF_ap, chainK_ap, chainK3_ap, chainK2_cmp, thn_nx, thn_rt, thn_bad, seqF_ap, ifS_ap, ifSK_ap, retF_ap, retK_ap, retN_ap, nxF_ap, neverF_ap, dropF_ap, dropK_ap, gnF_ap, gnilF_ap, gconsF_ap, gtupF_ap, optS_some, asgF_ap, asgK_ap, setM_ap, setK_ap, parF_ap, parK_ap, parK2_ap, callO_ret, callF_ap, callK_ap, fin_nx, fin_rt, oAt_ow, ownAt_ap, callMR_ret, callMK2_some, callMK_ap, callM0_some, callMF_ap, finM_nx, finM_rt, oL_ow, ownL_ap, appK2_some, appK_ap, app0_some, appF_ap, pop2_some, pop0_some, popF_ap, setI3_some, setI2_some, setIK2_ap, setI1_some, setIK_ap, setIF_ap, lkAt_fz, lkAt_ow, lookAt_ap, ixP2_ap, ixPK_ap, ixP0_some, ixPF_ap, scOut_some, isSc_bl, isSc_int, opPLK_ap, opPL0_some, opPLF_ap, opPRK_ap, opPRF_ap, nilMs_ap, consMs_ap, consMK_ap, consMK2_ap, par3F_ap, par3K_ap, dinP2_ap, dinP2_t, dinPK_ap, dinPF_ap, toKey_tup, toKeys_tup, toKey_int, dnewM_ap, done1M_ap, done1K_ap, done1K2_ap, dputO_some, dputK2_ap, dput1_some, dputK_ap, dputF_ap, itemsD_lst, itemsD_tup, itemsD_str, itF_ap, itK_ap, enF_ap, enK_lst, enK_tup, enK_str, rng1F_ap, rng2F_ap, rng2K_ap, starK2_ap, starF_ap, starK_lst, starK_tup, starK_str, forS_ap, forK_ap, lcM_ap, lcK_ap, mkL_ap, tYesF_ap, wipeE_nil, wipeE_cons, addD_int, subD_int, negD_int, cmpD_int, intD_int, intD_bl, tupleD_lst, tupleD_tup, listD_tup, eqD_int, neD_int, lenA_lst, lenA_tup, lenA_scr, lenD_lst, isiF_ap, isoF_ap, fldF_ap, fldK_one, joinF_ap, joinK_ap, joinK2_lst, makeR_ret, makeM_ap, makeK_ap, noPF_ap, partF_ap, partK_ap, slF_ap, slK_ap, slK2_ap, slK3_ap, bools_map, allD_rep, sortKF_ap, sortKK_ap, isi2F_ap, propF_ap, propK_ap, min2D_ap, max2D_ap, absD_ap, rg1F_ap, rg1K_ap, rg2F_ap, rg2K_ap, rg2K2_ap, tupRgF_ap, lstRgM_ap, lc2M_ap, lc2K_ap, dnewTM_ap, done1TM_ap, done1TK_ap, done1TK2_ap, listP0_ap, listPF_ap, dgetF_ap, dgetP2_ap, dgetPK_ap, dgetP0_ap, dgetPF_ap, starRgF_ap, starRgK2_ap, remO_ap, remK_ap, rem0_ap, remF_ap, listM_ap, listK_ap, ownL1_ap, extK2_some, extK_lst, ext0_some, extF_ap, forO0_some, B_law_L1, eit, el, e4, x1, n1, x2, x3, el2, ej, n2])
  exact ⟨ε', e⟩
theorem law_true (ns : List Int) (hl : ns.length ≤ 63) : F_law [.scr ns] = .ret (.bl true) := by
  have r0 : RowOk (.lst [.scr ns, .int 0, .int 1467, .int 0]) := ⟨ns, 0, 1467, 0, rfl, by omega⟩
  obtain ⟨t, d1, e1, r1, ok, -, -⟩ := F_cells_ok r0 (k := 4) (by omega) (by omega)
  have e1' : F__law_cells (.lst [.scr ns, .int 0, .int 1467, .int 0]) [.int 4] = .ret (clsD t) d1 := e1
  obtain ⟨C, d2, e2, r2, hC⟩ := F__law_lost_ok ok r1
  have ht := ok.thr10
  have ok' := (cutT_ok ok hC.inn).1
  have x1 := F_init_ok ok
  have x2 := F__law_without_eq ok hC.inn
  have x3 := F_many_eq ok
  have x4 := F_broken_eq ok hC
  have x5 := prop_cells
  have n1 := ne_self (okPy_cls ok')
  have n2 := ne_self (okPy_cls ok)
  have x6 := F__law_lots_eq ok'
  have x7 : ∀ ε : Env, rng1K (.int (thr t)) ε = .ok ((List.range' 0 (thr t)).map nD) ε := rng_nat (thr t) (by omega)
  obtain ⟨ε', l1⟩ := law_loop ok hC (.fz (.scr ns)) (.ow d2) (.fz (clsD t)) (.fz (clsD (cutT t C)))
  simp -implicitDefEqProofs only [runF, runM, envOf, envM, List.map_cons, List.map_nil, List.length_cons, List.length_nil, List.cons_append, List.nil_append, List.replicate, List.getElem?_cons_succ, List.getElem?_cons_zero, List.set_cons_succ, List.set_cons_zero, if_true, Bool.false_eq_true, if_false, Nat.reduceAdd, Nat.reduceSub, Nat.zero_add, Nat.zero_le, Bool.not_true, Bool.not_false, Option.some.injEq, Option.bind_some, Nat.reduceLeDiff, bnd_ok, bnd_bad, toS_ok, toS_bad, opt_some, opt_none, vOut_fz, vOut_ow, varF_ap, cF_ap, op2F_ap, op2K_ap, op2K2_ap, op1F_ap, op1K_ap, nilF_ap, consF_ap, consK_ap, consK2_ap, tupF_ap, tupK_ap, lstM_ap, lstK_ap, slget_fz, slget_ow, frzF_ap, frzK_ap, fzM_ap, fzK_ap, cbF_ap, cbK_ap, asB_bl, testF_ap, testK_ap, andT_ap, andTK_ap, orT_ap, orTK_ap, notT_ap, notTK_ap, andV_ap, andVK_ap, orV_ap, orVK_ap, notV_ap, notVK_ap, ifE_ap, ifEK_ap, chainF_ap, chainK_ap, chainK3_ap, chainK2_cmp, thn_nx, thn_rt, thn_bad, seqF_ap, ifS_ap, ifSK_ap, retF_ap, retK_ap, retN_ap, nxF_ap, neverF_ap, dropF_ap, dropK_ap, gnF_ap, gnilF_ap, gconsF_ap, gtupF_ap, optS_some, asgF_ap, asgK_ap, setM_ap, setK_ap, parF_ap, parK_ap, parK2_ap, callO_ret, callF_ap, callK_ap, fin_nx, fin_rt, oAt_ow, ownAt_ap, callMR_ret, callMK2_some, callMK_ap, callM0_some, callMF_ap, finM_nx, finM_rt, oL_ow, ownL_ap, appK2_some, appK_ap, app0_some, appF_ap, pop2_some, pop0_some, popF_ap, setI3_some, setI2_some, setIK2_ap, setI1_some, setIK_ap, setIF_ap, lkAt_fz, lkAt_ow, lookAt_ap, ixP2_ap, ixPK_ap, ixP0_some, ixPF_ap, scOut_some, isSc_bl, isSc_int, opPLK_ap, opPL0_some, opPLF_ap, opPRK_ap, opPRF_ap, nilMs_ap, consMs_ap, consMK_ap, consMK2_ap, par3F_ap, par3K_ap, dinP2_ap, dinP2_t, dinPK_ap, dinPF_ap, toKey_tup, toKeys_tup, toKey_int, dnewM_ap, done1M_ap, done1K_ap, done1K2_ap, dputO_some, dputK2_ap, dput1_some, dputK_ap, dputF_ap, itemsD_lst, itemsD_tup, itemsD_str, itF_ap, itK_ap, enF_ap, enK_lst, enK_tup, enK_str, rng1F_ap, rng2F_ap, rng2K_ap, starK2_ap, starF_ap, starK_lst, starK_tup, starK_str, forS_ap, forK_ap, lcM_ap, lcK_ap, mkL_ap, tYesF_ap, wipeE_nil, wipeE_cons, addD_int, subD_int, negD_int, cmpD_int, intD_int, intD_bl, tupleD_lst, tupleD_tup, listD_tup, eqD_int, neD_int, lenA_lst, lenA_tup, lenA_scr, lenD_lst, isiF_ap, isoF_ap, fldF_ap, fldK_one, joinF_ap, joinK_ap, joinK2_lst, makeR_ret, makeM_ap, makeK_ap, noPF_ap, partF_ap, partK_ap, slF_ap, slK_ap, slK2_ap, slK3_ap, bools_map, allD_rep, sortKF_ap, sortKK_ap, isi2F_ap, propF_ap, propK_ap, min2D_ap, max2D_ap, absD_ap, rg1F_ap, rg1K_ap, rg2F_ap, rg2K_ap, rg2K2_ap, tupRgF_ap, lstRgM_ap, lc2M_ap, lc2K_ap, dnewTM_ap, done1TM_ap, done1TK_ap, done1TK2_ap, listP0_ap, listPF_ap, dgetF_ap, dgetP2_ap, dgetPK_ap, dgetP0_ap, dgetPF_ap, starRgF_ap, starRgK2_ap, remO_ap, remK_ap, rem0_ap, remF_ap, listM_ap, listK_ap, ownL1_ap, extK2_some, extK_lst, ext0_some, extF_ap, forO0_some, F_law, B_law, e1', e2, x1, x2, x3, x4, x5, n1, n2, x6, x7, l1]
end LW
end
set_option maxHeartbeats 0 in
theorem PySem.Challenge.cw_wovenframes_k67_whole_what_comes_along_holds : PySem.Challenge.rw_wovenframes_k67_whole_what_comes_along.Holds := by
  w_on; o_law
  exact LW.h_row LW.law_true
