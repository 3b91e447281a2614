import PyProof.Rows.All
import PySem.Challenge.RW_wovenframes_k80_desks_refuse
import HandS.ReplaceList
import Wide.All
import OpenK.AllK
import Wide.FinOn
import HandS.ForMost
import HandS.More
import HandS.WordsExc
import HandS.Defaults
import HandS.Walk
import HandS.Star
import KE.GoesEnum
import HandS.Lambda
import KE.KeyNested
import PyProof.DictRoadsH
import HandS.IsInst
import HandS.TupAny
import HandS.TupMul
import HandS.Deep
import KE.DataEq
import KE.SortData
import HandS.Conv
import KE.KStateDown
import HandS.Head0
import HandS.Head1
import HandS.Head2
import HandS.HeadEnd
import HandS.HeadHook1
import HandS.HeadHook2
import KE.LtData
import HandS.Style
import KE.SortKeyed
import HandS.SortKw
import HandS.Property
import HandS.Sort
import PyProof.Rows.TupDisplay
import HandS.TupSets
import HandS.SetFor
import HandS.Strs
import KE.DataFind
import PyProof.ListStr
import HandS.TupLe
import HandS.ReplaceLit
import HandS.Exc
import HandS.ExcOwn
import HandS.ExcInit
import HandS.ExcIs
import HandS.ExcField
import HandS.TryOnly
import HandS.TryMany
import KE.KExcIs
import KE.KRevSl
import HandS.Small
import HandS.DictComp
import HandS.Iter
import KE.GoesMore
import HandS.Zip
import HandS.HeadHook3
import KE.KTupSum
import HandS.HeadWalk
import HandS.EndTab
import HandS.HeadHook4
import PyProof.Rows.CountFlat
import KE.KDflt
import KE.KDictPairs
import PyProof.Rows.SortStr
import KE.KDictCopyH
import HandS.Text
set_option Elab.async false
set_option linter.all false
set_option maxRecDepth 100000
set_option maxHeartbeats 4000000
set_option autoImplicit false
section
set_option Elab.async false
set_option linter.all false
set_option maxRecDepth 100000
set_option maxHeartbeats 2000000
set_option autoImplicit false
namespace MH
open PySem PySem.Spec PyProof.Rows L2
open AutoSeq1 (wpAny_loadPart')
def iAny (K : PySem.W.Frag) (tl : TE) : TI := fun σ H R => tl σ H fun x H1 => (∃ a, x = .ref a ∧ (∃ xs, SqL K H1 a xs) ∧ R (Itl K a) H1) ∨ (∃ a, x = .ref a ∧ (∃ xs, SqT K H1 a xs) ∧ R (Itt K a) H1) ∨ ∃ z, x = .str z ∧ R (Its z) H1
theorem pi_any {X : Cx} {tg l : Expr} {tl : TE} (hl : PE X l tl) : PI X tg l (iAny X.K tl) := by
  refine ⟨fun pins s σ H R I h => thn (hl.run pins s σ H _ I h) fun v s1 ⟨x, H1, I1, r1, q1⟩ => ?_⟩
  have big := I1.fpOk (Nat.le_refl _) (I1.hok.fresh (Nat.le_refl s1.heap.objs.size))
  rcases q1 with ⟨a, rfl, ⟨xs, hq⟩, q⟩ | ⟨a, rfl, ⟨xs, hq⟩, q⟩ | ⟨z, rfl, q⟩
  · cases r1
    obtain ⟨its, rv, p, hz⟩ := I1.list hq
    exact wpAny_pyIter_list p.isList ⟨s1.heap.objs.size, [s1.heap.objs.size], _, _, H1, rfl, I1.kept (t' := s1.toks) fun b o e => Heap.get?_push_of_some _ e, turn_list a _, ⟨_, Heap.get?_push_size _ rfl, rfl, rfl⟩, fun b hb => by
      rw [show b = s1.heap.objs.size by simpa using hb]; exact big, q⟩
  · cases r1
    obtain ⟨its, rv, p, hz⟩ := I1.tuple hq
    exact wpAny_pyIter_tuple (show s1.heap.IsTuple a its.toArray from p) ⟨s1.heap.objs.size, [s1.heap.objs.size], _, _, H1, rfl, I1.kept (t' := s1.toks) fun b o e => Heap.get?_push_of_some _ e, turn_tuple a _, ⟨_, Heap.get?_push_size _ rfl, rfl, rfl⟩, fun b hb => by
      rw [show b = s1.heap.objs.size by simpa using hb]; exact big, q⟩
  · obtain ⟨t, rfl⟩ := r1
    cases ha : z.cps.all (· < 128)
    · exact wpAny_pyIter_wide ha (pi_one (tk := s1.toks) I1 _ (turn_str _ z t "str_iterator" (.inr rfl)) ⟨_, Heap.get?_push_size _ rfl, rfl, rfl⟩ q)
    · exact wpAny_pyIter_ascii ha (pi_one (tk := s1.toks) I1 _ (turn_str _ z t "str_ascii_iterator" (.inl rfl)) ⟨_, Heap.get?_push_size _ rfl, rfl, rfl⟩ q)
theorem meets_enum_tup (l : Addr) (items : Array Value) (n : Nat) (dct : Option Addr) (sl : Array (Option Value)) :
    Meets (Builtin.«enumerate.__new__» ⟨[.type "enumerate", .ref l], []⟩) (fun _ R s => s.heap.get? l = some { cls := .type "tuple", dict := dct, data := .seq items n, slots := sl } ∧
      R (.ok (.ret (.ref (s.heap.push { cls := .type "tuple_iterator", data := .fields #[.ref l, .int 0 0] }).objs.size)))
        { s with heap := (s.heap.push { cls := .type "tuple_iterator", data := .fields #[.ref l, .int 0 0] }).push { cls := .type "enumerate", data := .fields #[.none, .bool false, .ref s.heap.objs.size, rawInt 0, .none, .none] } }) :=
  .of_wp fun prog w A R s h => by
    obtain ⟨hp, g, d, tk, os⟩ := s; obtain ⟨hl, h⟩ := h
    have hsub := sub_enumerate
    have hT : Heap.IsTuple (Shared.heap ⟨hp, g, d, tk, os⟩) l items := ⟨_, hl, rfl, n, rfl⟩
    wp_walk using wpAny_loadPart' hl
    refine wpAny_stack_any fun st => wpAny_pure ?_
    split
    · rename_i c _ _ _ _ _
      cases (c == Value.type "enumerate")
      · wp_walk using wpAny_loadPart' hl, wpAny_pyIter_tuple hT
        exact ⟨_, rfl, h⟩
      · wp_walk using wpAny_loadPart' hl, wpAny_pyIter_tuple hT
        exact ⟨_, rfl, h⟩
    · wp_walk using wpAny_loadPart' hl, wpAny_pyIter_tuple hT
      exact ⟨_, rfl, h⟩
section
variable {prog : Program} {w : World} {A : Around} {E : Value → Shared → Prop} {s : Shared}
theorem call_enum_tup {l : Addr} {items : Array Value} {Q : Value → Shared → Prop} (hL : s.heap.IsTuple l items)
    (h : ∀ h', IsEnum h' (s.heap.objs.size + 1) s.heap.objs.size 0 .none → h'.IsTupleIter s.heap.objs.size l 0 → h'.objs.size = s.heap.objs.size + 2 →
      (∀ b o, s.heap.get? b = some o → h'.get? b = some o) → Q (.ref (s.heap.objs.size + 1)) { s with heap := h' }) :
    wpAny (model prog w) A (call (.type "enumerate") [.ref l]) Q E s := by
  obtain ⟨⟨c, dct, dt, sl⟩, hl, hc, n, hd⟩ := hL
  replace hc : c = .type "tuple" := hc
  replace hd : dt = .seq items n := hd
  subst hc hd
  refine callType_new F.called_enumerate (by decide) (F.typeCall_enumerate_1 _) (F.newCall_enumerate_1 _) (fun obj => F.args_object_init_2 obj _) F.entry_enumerate_new (meets_enum_tup l items n dct sl) ⟨hl, ?_⟩
  have hz : (s.heap.push { cls := .type "tuple_iterator", data := .fields #[.ref l, .int 0 0] }).objs.size = s.heap.objs.size + 1 := Heap.size_push ..
  show _ ∧ _
  rw [hz]
  have he : IsEnum ((s.heap.push { cls := .type "tuple_iterator", data := .fields #[.ref l, .int 0 0] }).push
      { cls := .type "enumerate", data := .fields #[.none, .bool false, .ref s.heap.objs.size, rawInt 0, .none, .none] }) (s.heap.objs.size + 1) s.heap.objs.size 0 .none := by
    have := Heap.get?_push_size (s.heap.push { cls := .type "tuple_iterator", data := .fields #[.ref l, .int 0 0] })
      (o := { cls := .type "enumerate", data := .fields #[.none, .bool false, .ref s.heap.objs.size, rawInt 0, .none, .none] }) rfl
    rw [hz] at this; exact this
  exact ⟨⟨_, he, rfl⟩, h _ he ⟨_, Heap.get?_push_of_some _ (Heap.get?_push_size _ rfl), rfl, rfl⟩ (by rw [Heap.size_push, hz]) fun b o x => Heap.get?_push_of_some _ (Heap.get?_push_of_some _ x)⟩
end
theorem enum_turn {X : Cx} {elts : List Expr} {kk : Nat} {tpos : Pos} {e it : Addr} {fp : List Addr} {n i : Nat} {P : Nat → Value → Prop} {St : Nat → Heap → Prop} {old : Value} {pins : List (Addr × Obj)} {s : Shared} {σ : L2.St} {H : Hp} {E : Value → Shared → Prop} {R : V → Hp → Shared → Prop}
    (I : Inv X pins σ H s) (D : Draws X.prog X.w X.A.in1 it fp n P St) (he : IsEnum s.heap e it ((i : Nat) : Int) old) (hst : St i s.heap) (hlt : i < n) (hne : e ≠ it) (hef : e ∉ fp) (hf : ∀ b ∈ [e, it], FpOk X pins H b) (hil : it < s.heap.objs.size)
    (hR : ∀ (v : Value) (h'' : Heap) (tk : Nat) (x : V), P i v → RelV x v → IsEnum h'' e it (((i + 1 : Nat)) : Int) v → St (i + 1) h'' → Inv X pins σ (upd H s.heap.objs.size (.tup [.int (i : Nat), x])) { s with heap := h'', toks := tk } → R (.ref s.heap.objs.size) (upd H s.heap.objs.size (.tup [.int (i : Nat), x])) { s with heap := h'', toks := tk })
    (hv : ∀ v, P i v → ∃ x, RelV x v) :
    wpAny (model X.prog X.w) X.A (pyNext (.ref e)) (fun r s1 => ∃ u, r = some u ∧ wpAny (model X.prog X.w) X.A (letOwnedTupleGo (.Tuple elts kk tpos) (.ref e) u) (fun _ s2 => ∃ x H', Inv X pins σ H' s2 ∧ RelV x u ∧ R x H' s2) E s1) E s := by
  have hel : e < s.heap.objs.size := Heap.lt_size he
  refine wpAny_pyNext_enum_itemD D he hst hlt hne hef fun v h' tk hp ho hs' hT hsz hk => ⟨_, rfl, wpAny_letOwnedTupleGo_enum (s := { s with heap := h', toks := tk + 1 }) ho fun h'' he' sb => ?_⟩
  obtain ⟨x, rx⟩ := hv v hp
  have hT2 : h''.get? s.heap.objs.size = some { cls := .type "tuple", data := .seq #[.int i tk, v] } := (sb.2 _ (Nat.ne_of_gt hel)).trans hT
  have new : ObjOk X.prog X.w (upd H s.heap.objs.size (.tup [.int (i : Nat), x])) h'' s.heap.objs.size (.tup [.int (i : Nat), x]) :=
    ⟨by show 2 ≤ sizeLine; decide, [.int i tk, v], .cons ⟨_, rfl⟩ (.cons rx .nil), ⟨_, hT2, rfl, _, rfl⟩⟩
  have I1 : Inv X pins σ (upd H s.heap.objs.size (.tup [.int (i : Nat), x])) { s with heap := h'', toks := tk + 1 } :=
    I.turnedNew (ch := [e, it]) (fun b ob hb q => (sb.2 b (fun z => hb (by simp [z]))).trans (hk b ob (fun z => hb (by simp [z])) (fun z => hb (by simp [z])) q)) hf (Nat.le_refl _) new
  refine ⟨.ref s.heap.objs.size, _, I1, rfl, hR v h'' (tk + 1) x hp rx ?_ (D.frame _ _ _ hs' fun b hb o q => (sb.2 b fun z => hef (z ▸ hb)).trans q) I1⟩
  have e1 : ((i + 1 : Nat) : Int) = (i : Int) + 1 := by omega
  rw [e1]; exact he'
def IteT (K : PySem.W.Frag) (a : Addr) : It :=
  ⟨fun i H => ∃ (xs : List V) (x : V), SqT K H a xs ∧ xs[i]? = some x, fun i H v H' => ∃ T x, v = .ref T ∧ H T = none ∧ H' = upd H T (.tup [.int (i : Nat), x]) ∧ ∀ xs, SqT K H a xs → xs[i]? = some x, fun i H => ∃ xs : List V, SqT K H a xs ∧ xs.length = i⟩
def IteS (z : Str) : It :=
  ⟨fun i _ => i < z.cps.size, fun i H v H' => ∃ T c, v = .ref T ∧ H T = none ∧ H' = upd H T (.tup [.int (i : Nat), .str ⟨#[c]⟩]) ∧ z.cps[i]? = some c, fun i _ => z.cps.size = i⟩
theorem turn_enumT {P : Program} {w : World} {K : PySem.W.Frag} {elts : List Expr} {kk : Nat} {tpos : Pos} (a e it : Addr) :
    Turn P w K (.Tuple elts kk tpos) (IteT K a) [e, it] e (fun i h => (∃ old, IsEnum h e it ((i : Nat) : Int) old) ∧ h.IsTupleIter it a i ∧ e ≠ it) where
  mem := by simp
  obj := fun i h st b hb => by
    obtain ⟨⟨old, he⟩, ⟨o, ho, hc, hd⟩, _⟩ := st
    rcases (by simpa using hb : b = e ∨ b = it) with z | z
    · rw [z]; exact ⟨_, he, fun v q => nomatch q⟩
    · rw [z]; exact ⟨o, ho, fun v q => by rw [hd] at q; cases q⟩
  keep := fun i h h' st k => let ⟨⟨old, he⟩, hi, hne⟩ := st; ⟨⟨old, k e (by simp) _ he⟩, hi.at fun o q => k it (by simp) o q, hne⟩
  item := by
    intro X hP hw hK hc i pins s σ H E I hf st hg
    subst hP hw hK
    obtain ⟨⟨old, he⟩, hit, hne⟩ := st
    obtain ⟨xs, x, hq, hx⟩ := hg
    obtain ⟨its, rv, p, hz⟩ := I.tuple hq
    have hil : it < s.heap.objs.size := by obtain ⟨_, q, _⟩ := hit; exact Heap.lt_size q
    have hel : e < s.heap.objs.size := Heap.lt_size he
    have hai : a ≠ it := fun z => by
      obtain ⟨o1, q1, c1, _⟩ := hit
      obtain ⟨o2, q2, c2, _⟩ := p
      rw [z, q1] at q2; cases q2; rw [c1] at c2; simp at c2
    have hae : a ≠ e := fun z => by
      obtain ⟨o2, q2, c2, _⟩ := p
      rw [z, he] at q2; cases q2; simp at c2
    have hl := rv.length
    have hi : i < its.toArray.size := by
      have := (List.getElem?_eq_some_iff.mp hx).1
      simp; omega
    have D := Draws.tuple (prog := X.prog) (w := X.w) (A := X.A.in1) (I.ok.hd hc) it a hai its.toArray
    have pT : s.heap.IsTuple a its.toArray := p
    refine wpAny_mono (enum_turn (R := fun y H' s2 => (IteT X.K a).yld i H y H' ∧ ((∃ old, IsEnum s2.heap e it (((i + 1 : Nat)) : Int) old) ∧ s2.heap.IsTupleIter it a (i + 1) ∧ e ≠ it) ∧ ∀ b ∈ [e, it], H' b = none) I D he ⟨hit, pT⟩ hi hne (by simp; exact ⟨hne, Ne.symm hae⟩) hf hil ?_ ?_) (fun r s1 ⟨u, e1, q⟩ => ⟨u, e1, q⟩) fun _ _ z => z
    · intro v h'' tk y hp ry he' hs' I1
      refine ⟨⟨_, y, rfl, I.hok.fresh (Nat.le_refl _), rfl, fun ys hy => ?_⟩, ⟨⟨v, he'⟩, hs'.1, hne⟩, fun b hb => ?_⟩
      · rw [I.tuple_inj hy hq, hx]
        obtain ⟨u2, e2, r2⟩ := rv.get hx
        have e3 : its[i]? = some v := by simpa using hp
        rw [e3] at e2; cases e2
        rw [r2.inj ry]
      · have hb' : b < s.heap.objs.size := by
          rcases (by simpa using hb : b = e ∨ b = it) with z | z
          · rw [z]; exact hel
          · rw [z]; exact hil
        rw [upd_ne (Nat.ne_of_lt hb')]
        exact (hf b hb).1
    · intro v hp
      obtain ⟨u2, e2, r2⟩ := rv.get hx
      have e3 : its[i]? = some v := by simpa using hp
      rw [e3] at e2; cases e2
      exact ⟨x, r2⟩
  done := by
    intro X hP hw hK hc i pins s σ H E I hf st hg
    subst hP hw hK
    obtain ⟨⟨old, he⟩, hit, hne⟩ := st
    obtain ⟨xs, hq, hx⟩ := hg
    obtain ⟨its, rv, p, hz⟩ := I.tuple hq
    obtain ⟨f0, f1, f2, f3, f4, f5⟩ := hf it (by simp)
    have hl := rv.length
    have hai : a ≠ it := fun z => by
      obtain ⟨o1, q1, c1, _⟩ := hit
      obtain ⟨o2, q2, c2, _⟩ := p
      rw [z, q1] at q2; cases q2; rw [c1] at c2; simp at c2
    have hi : i = its.toArray.size := by simp; omega
    have D := Draws.tuple (prog := X.prog) (w := X.w) (A := X.A.in1) (I.ok.hd hc) it a hai its.toArray
    have pT : s.heap.IsTuple a its.toArray := p
    exact wpAny_pyNext_enum_endD D he (by rw [← hi]; exact ⟨hit, pT⟩) fun h' eb => ⟨rfl, I.turned (t' := s.toks) (fun b o hb q => eb b o hb q) f0 f1 f3 f4 f5⟩
  self := fun A i s Q E st h => let ⟨⟨_, he⟩, _⟩ := st; wpAny_pyIter_enum he h
theorem turn_enumS {P : Program} {w : World} {K : PySem.W.Frag} {elts : List Expr} {kk : Nat} {tpos : Pos} (z : Str) (t : Tok) (e it : Addr) :
    Turn P w K (.Tuple elts kk tpos) (IteS z) [e, it] e (fun i h => (∃ old, IsEnum h e it ((i : Nat) : Int) old) ∧ h.IsStrIter it (strIterType z) z t i ∧ e ≠ it) where
  mem := by simp
  obj := fun i h st b hb => by
    obtain ⟨⟨old, he⟩, ⟨o, ho, hc, hd⟩, _⟩ := st
    rcases (by simpa using hb : b = e ∨ b = it) with z | z
    · rw [z]; exact ⟨_, he, fun v q => nomatch q⟩
    · rw [z]; exact ⟨o, ho, fun v q => by rw [hd] at q; cases q⟩
  keep := fun i h h' st k => let ⟨⟨old, he⟩, hi, hne⟩ := st; ⟨⟨old, k e (by simp) _ he⟩, (let ⟨o, ho, r⟩ := hi; ⟨o, k it (by simp) o ho, r⟩), hne⟩
  item := by
    intro X hP hw hK hc i pins s σ H E I hf st hg
    subst hP hw hK
    obtain ⟨⟨old, he⟩, hit, hne⟩ := st
    have hil : it < s.heap.objs.size := by obtain ⟨_, q, _⟩ := hit; exact Heap.lt_size q
    have hel : e < s.heap.objs.size := Heap.lt_size he
    have D := Draws.text (prog := X.prog) (w := X.w) (A := X.A.in1) (I.ok.hd hc) it z t
    refine wpAny_mono (enum_turn (R := fun y H' s2 => (IteS z).yld i H y H' ∧ ((∃ old, IsEnum s2.heap e it (((i + 1 : Nat)) : Int) old) ∧ s2.heap.IsStrIter it (strIterType z) z t (i + 1) ∧ e ≠ it) ∧ ∀ b ∈ [e, it], H' b = none) I D he hit hg hne (by simp; exact hne) hf hil ?_ ?_) (fun r s1 ⟨u, e1, q⟩ => ⟨u, e1, q⟩) fun _ _ z => z
    · intro v h'' tk y hp ry he' hs' I1
      obtain ⟨c, u, hc1, rfl⟩ := hp
      have ey : y = .str ⟨#[c]⟩ := RelV.inj ry ⟨u, rfl⟩
      subst ey
      refine ⟨⟨_, c, rfl, I.hok.fresh (Nat.le_refl _), rfl, hc1⟩, ⟨⟨_, he'⟩, hs', hne⟩, fun b hb => ?_⟩
      have hb' : b < s.heap.objs.size := by
        rcases (by simpa using hb : b = e ∨ b = it) with z | z
        · rw [z]; exact hel
        · rw [z]; exact hil
      rw [upd_ne (Nat.ne_of_lt hb')]
      exact (hf b hb).1
    · intro v hp
      obtain ⟨c, u, hc1, rfl⟩ := hp
      exact ⟨.str ⟨#[c]⟩, u, rfl⟩
  done := by
    intro X hP hw hK hc i pins s σ H E I hf st hg
    subst hP hw hK
    obtain ⟨⟨old, he⟩, hit, hne⟩ := st
    obtain ⟨f0, f1, f2, f3, f4, f5⟩ := hf it (by simp)
    have D := Draws.text (prog := X.prog) (w := X.w) (A := X.A.in1) (I.ok.hd hc) it z t
    have hg' : z.cps.size = i := hg
    exact wpAny_pyNext_enum_endD D he (by rw [hg']; exact hit) fun h' eb => ⟨rfl, I.turned (t' := s.toks) (fun b o hb q => eb b o hb q) f0 f1 f3 f4 f5⟩
  self := fun A i s Q E st h => let ⟨⟨_, he⟩, _⟩ := st; wpAny_pyIter_enum he h
def iEnumA (K : PySem.W.Frag) (ta : TA) : TI := fun σ H R => ta σ H fun vs H1 => (∃ a xs, vs = [.ref a] ∧ SqL K H1 a xs ∧ R (Ite K a) H1) ∨ (∃ a xs, vs = [.ref a] ∧ SqT K H1 a xs ∧ R (IteT K a) H1) ∨ ∃ z, vs = [.str z] ∧ R (IteS z) H1
theorem pi_enumA {X : Cx} {e : Expr} {ta : TA} {p pos tpos : Pos} {elts : List Expr} {kk : Nat} (hg : Gl X "enumerate") (hm : X.mg "enumerate" = none) (ha : PA X [e] ta) (hs : starEach [e] X.env = [(false, eval e X.env)] := by rfl) :
    PI X (.Tuple elts kk tpos) (.Call (.Name "enumerate" p) [e] [] pos) (iEnumA X.K ta) := by
  refine ⟨fun pins s σ H R I h => Call_ (ld_blt I hg hm boot_enumerate (PyProof.Rows.callWith_type1 (thn (ha.run pos pins s σ H _ I h) fun us s1 ⟨vs, H1, I1, r1, q1⟩ => ?_) hs rfl))⟩
  have fp : ∀ b ∈ [s1.heap.objs.size + 1, s1.heap.objs.size], FpOk X pins H1 b := fun b hb => by
    have hle : s1.heap.objs.size ≤ b := by
      rcases (by simpa using hb : b = s1.heap.objs.size + 1 ∨ b = s1.heap.objs.size) with z | z
      · rw [z]; exact Nat.le_add_right _ _
      · rw [z]; exact Nat.le_refl _
    exact I1.fpOk hle (I1.hok.fresh hle)
  rcases q1 with ⟨a, xs, rfl, hq, q⟩ | ⟨a, xs, rfl, hq, q⟩ | ⟨z, rfl, q⟩
  · cases r1 with
    | cons r rr =>
      cases rr
      cases r
      obtain ⟨its, rv, p', hz⟩ := I1.list hq
      refine call_enumerate_list p'.isList fun h' he hit hsz hk => wpAny_pyIter_enum he ?_
      have I2 : Inv X pins σ H1 { s1 with heap := h' } := I1.kept (t' := s1.toks) hk
      exact ⟨s1.heap.objs.size + 1, [s1.heap.objs.size + 1, s1.heap.objs.size], _, _, H1, rfl, I2, turn_enum a (s1.heap.objs.size + 1) s1.heap.objs.size, ⟨⟨.none, he⟩, hit, Nat.succ_ne_self _⟩, fp, q⟩
  · cases r1 with
    | cons r rr =>
      cases rr
      cases r
      obtain ⟨its, rv, p', hz⟩ := I1.tuple hq
      refine call_enum_tup (show s1.heap.IsTuple a its.toArray from p') fun h' he hit hsz hk => wpAny_pyIter_enum he ?_
      have I2 : Inv X pins σ H1 { s1 with heap := h' } := I1.kept (t' := s1.toks) hk
      exact ⟨s1.heap.objs.size + 1, [s1.heap.objs.size + 1, s1.heap.objs.size], _, _, H1, rfl, I2, turn_enumT a (s1.heap.objs.size + 1) s1.heap.objs.size, ⟨⟨.none, he⟩, hit, Nat.succ_ne_self _⟩, fp, q⟩
  · cases r1 with
    | cons r rr =>
      cases rr
      obtain ⟨t, rfl⟩ := r
      refine call_enumerate_str fun h' he hit hsz hk => wpAny_pyIter_enum he ?_
      have I2 : Inv X pins σ H1 { s1 with heap := h' } := I1.kept (t' := s1.toks) hk
      exact ⟨s1.heap.objs.size + 1, [s1.heap.objs.size + 1, s1.heap.objs.size], _, _, H1, rfl, I2, turn_enumS z t (s1.heap.objs.size + 1) s1.heap.objs.size, ⟨⟨.none, he⟩, hit, Nat.succ_ne_self _⟩, fp, q⟩

def rLenO (C : Addr) (sp : Sp) : List V → Hp → VK → Prop := fun xs H Q => ∃ a dx fs, xs = [.ref a] ∧ H a = some (.ins C dx fs) ∧ sp [.ref a] H (fun v H' => ∃ n : Int, v = .int n ∧ 0 ≤ n ∧ n < 2 ^ 63 ∧ Q v H') E0
theorem call_lenO {X : Cx} {k : Nat} {f C : Addr} {fd : FuncData} {ps : List Str} {sp : Sp} (m : Meth X.K C "__len__" f) (F : FnOk X.prog X.w X.K X.mg X.base CX0 k f fd ps sp) (hr : Room (k + 1) X.A) (hb : Binds X.K fd ps []) : CallR X (.builtin "len") (rLenO C sp) := by
  intro pins s σ H xs us Q I rx h
  obtain ⟨a, dx, fs, rfl, ea, q⟩ := h
  cases rx with
  | cons r rr =>
    cases rr
    cases r
    obtain ⟨mA, O, _⟩ := ins_get I.hok ea
    obtain ⟨od, J, _⟩ := O.look
    obtain ⟨mm, Fr⟩ := I.fr
    refine PySem.W.len_K Fr I.ok.mod.kin J m.at_ m.fn (wpAny_call ?_)
    have hl : ([Value.ref a] ++ []).length = ps.length := by rw [← F.len _ _ _ _ q]; rfl
    refine codeAny_mono (F.run X.A.in1 X.stack s H ⟨[.ref a], []⟩ [.ref a] [.ref a] _ E0 hr.in1 I.env0.in1 (hb _ [.ref a] I.kIn hl) (.cons rfl .nil) q) fun r s' hq => ?_
    cases r with
    | error er => exact hq.elim
    | ok fl =>
      cases fl with
      | ret u =>
        obtain ⟨v, H', I3, rv, n, rfl, h0, h1, q3⟩ := I.after hq
        obtain ⟨t, rfl⟩ := rv
        exact ⟨⟨h0, h1⟩, .int n, H', I3.tok _, ⟨_, rfl⟩, q3⟩
      | next => exact False.elim hq
      | brk => exact False.elim hq
      | cont => exact False.elim hq

def signs (z : Str) : List V := z.cps.toList.map fun c => V.str ⟨#[c]⟩
theorem vals_of : ∀ {xs : List V} {us : List Value}, xs.length = us.length → (∀ (i : Nat) (x : V) (v : Value), xs[i]? = some x → us[i]? = some v → RelV x v) → Vals xs us
  | [], [], _, _ => .nil
  | [], _ :: _, h, _ => by cases h
  | _ :: _, [], h, _ => by cases h
  | x :: xs, v :: us, h, k => .cons (k 0 x v rfl rfl) (vals_of (by simpa using h) fun i y w hy hw => k (i + 1) y w (by simpa using hy) (by simpa using hw))
theorem star_str {X : Cx} {pins : List (Addr × Obj)} {σ : L2.St} {H : Hp} {s : Shared} {z : Str} {t : Tok} {E : Value → Shared → Prop} {Q : List Value → Shared → Prop} (hc : X.calm = true) (I : Inv X pins σ H s) (hz : z.cps.size ≤ sizeLine) (hQ : ∀ us s', Inv X pins σ H s' → Vals (signs z) us → Q us s') :
    PySem.W.StarOf (model X.prog X.w) X.A E (.str z t) Q s := by
  have w : wpAny (model X.prog X.w) X.A (collect (.str z t)) Q E s := by
    refine wpAny_collect_str (I.ok.hd hc) z t (fun s' acc hk hg hd ho hi => hQ _ s' ?_ ?_) hz
    · obtain ⟨h, g, d, tk, os⟩ := s
      obtain ⟨h', g', d', tk', os'⟩ := s'
      simp only at hg hd ho hk
      subst hg hd ho
      exact I.kept hk
    · refine vals_of (by simp [signs, hi.1]) fun i x v hx hv => ?_
      obtain ⟨c, tk, hc1, rfl⟩ := hi.2 i v (by simpa using hv)
      simp only [signs, List.getElem?_map, Array.getElem?_toList, hc1, Option.map_some, Option.some.injEq] at hx
      subst hx
      exact ⟨tk, rfl⟩
  unfold PySem.W.StarOf notIterableAtAll
  exact wpAny_bind (wpAny_specialOf (T := "str") (v := .str z t) rfl PySem.F.slot_str_iter.lookup (wpAny_pure ⟨rfl, w⟩))
def tStarA (K : PySem.W.Frag) (te : TE) (t : TA) : TA := fun σ H Q => te σ H fun x H1 => (∃ p xs, x = V.ref p ∧ (SqT K H1 p xs ∨ SqL K H1 p xs) ∧ t σ H1 fun ys H2 => Q (xs ++ ys) H2) ∨ ∃ z, x = V.str z ∧ z.cps.size ≤ sizeLine ∧ t σ H1 fun ys H2 => Q (signs z ++ ys) H2
theorem pa_starA {X : Cx} {e : Expr} {es : List Expr} {te : TE} {t : TA} {p : Pos} (hc : X.calm = true) (he : PE X e te) (hr : PA X es t) (hs : starEach (.Starred e p :: es) X.env = (true, eval e X.env) :: starEach es X.env := by rfl) : PA X (.Starred e p :: es) (tStarA X.K te t) := by
  refine ⟨fun pos pins s σ H Q I h => PySem.W.items_star (thn (he.run pins s σ H _ I h) fun v s1 ⟨y, H1, I1, ry, q⟩ => ?_) hs⟩
  rcases q with ⟨a, xs, rfl, hx, q⟩ | ⟨z, rfl, hz, q⟩
  · obtain rfl : v = Value.ref a := ry
    exact StX.star_any I1 hx fun us s2 I2 rv => thn (hr.run pos pins s2 σ H1 _ I2 q) fun ws s3 ⟨vs, H3, I3, r3, q3⟩ => ⟨xs ++ vs, H3, I3, rv.append r3, q3⟩
  · obtain ⟨t, rfl⟩ := ry
    exact star_str hc I1 hz fun us s2 I2 rv => thn (hr.run pos pins s2 σ H1 _ I2 q) fun ws s3 ⟨vs, H3, I3, r3, q3⟩ => ⟨signs z ++ vs, H3, I3, rv.append r3, q3⟩
end MH
end
section
set_option Elab.async false
set_option linter.all false
set_option maxRecDepth 100000
set_option maxHeartbeats 2000000
set_option autoImplicit false
namespace MH
open PySem L2
def AtO (a : Addr) (o : Obj) : HO := .ext fun h => h.get? a = some o
def IsDk (a : Addr) (φ : Heap → Prop) : Prop := ∃ o : Obj, o.ExactDict ∧ (∃ es ep, o.data = .dict es ep) ∧ φ = fun h => h.get? a = some o
theorem heap_of {a : Addr} {o : Obj} (h : ∃ es ep, o.data = .dict es ep) : ∃ H : Heap, H.get? a = some o := by
  obtain ⟨es, ep, e⟩ := h
  refine ⟨{ objs := Array.replicate (a + 1) o }, ?_⟩
  unfold Heap.get?
  have : (Array.replicate (a + 1) o)[a]? = some o := by simp
  simp only [this]
  obtain ⟨c, d, dt, sl⟩ := o
  subst e
  rfl
theorem atO_inj {a : Addr} {o o' : Obj} (h : ∃ es ep, o.data = .dict es ep) (e : (fun h : Heap => h.get? a = some o') = fun h => h.get? a = some o) : o' = o := by
  obtain ⟨H, hH⟩ := heap_of (a := a) h
  have z := congrFun e H
  simp only [hH, eq_iff_iff, iff_true] at z
  exact (Option.some.inj z).symm
theorem atO_nodk {a : Addr} {o : Obj} (hc : o.cls ≠ .type "dict") : ¬ IsDk a (fun h => h.get? a = some o) := fun ⟨_, hx, hd, e⟩ => by
  have := atO_inj hd e
  subst this
  exact hc hx.1
theorem codeO_nodk {a : Addr} {q : Str} : ¬ IsDk a (fun h => ∃ (oc : Obj) (vs : Array Value) (t : Tok), h.get? a = some oc ∧ oc.data = .fields vs ∧ vs[1]? = some (.str q t)) := fun ⟨o, hx, hd, e⟩ => by
  obtain ⟨H, hH⟩ := heap_of (a := a) hd
  have z := congrFun e H
  simp only [hH, eq_iff_iff, iff_true] at z
  obtain ⟨oc, vs, t, z1, z2, _⟩ := z
  obtain ⟨es, ep, d⟩ := hd
  cases z1
  rw [z2] at d
  cases d
abbrev NRow := NestedKey × Addr × Value
mutual
def KeyG (G : Hp) : NestedKey → V → Prop
  | .none, v => v = .non
  | .num i, v => v = .int i
  | .text s, v => v = .str s
  | .tup ks, v => ∃ a vs, v = .ref a ∧ G a = some (.tup vs) ∧ KeyGs G ks vs
def KeyGs (G : Hp) : List NestedKey → List V → Prop
  | [], vs => vs = []
  | k :: ks, vs => ∃ v r, vs = v :: r ∧ KeyG G k v ∧ KeyGs G ks r
end
mutual
theorem KeyG.mono {G G' : Hp} (e : ∀ a o, G a = some o → G' a = some o) : ∀ (k : NestedKey) {v : V}, KeyG G k v → KeyG G' k v
  | .none, _, h => h
  | .num _, _, h => h
  | .text _, _, h => h
  | .tup ks, v, h => by
    simp only [KeyG] at h ⊢
    obtain ⟨a, vs, r, s, t⟩ := h
    exact ⟨a, vs, r, e _ _ s, KeyGs.mono e ks t⟩
theorem KeyGs.mono {G G' : Hp} (e : ∀ a o, G a = some o → G' a = some o) : ∀ (ks : List NestedKey) {vs : List V}, KeyGs G ks vs → KeyGs G' ks vs
  | [], _, h => h
  | k :: ks, vs, h => by
    simp only [KeyGs] at h ⊢
    obtain ⟨v, r, q, h1, h2⟩ := h
    exact ⟨v, r, q, KeyG.mono e k h1, KeyGs.mono e ks h2⟩
end
structure NObj (w : World) (o : Obj) (xs : List NRow) : Prop where
  ex : o.ExactDict
  dat : ∃ es ep, o.data = .dict es ep ∧ es.toList = xs.map fun x => (⟨x.1.hash w, .ref x.2.1, x.2.2⟩ : DictEntry)
  nd : (xs.map (·.1)).Nodup
  dp : ∀ x ∈ xs, x.1.depth ≤ 8
def NIs (w : World) (G : Hp) (a : Addr) (o : Obj) (ks : List NestedKey) (ws : List V) : Prop :=
  (a == sysModules) = false ∧ ∃ xs : List NRow, NObj w o xs ∧ xs.map (·.1) = ks ∧ (∀ x ∈ xs, KeyG G x.1 (.ref x.2.1)) ∧ Vals ws (xs.map (·.2.2))
theorem NIs.mono {w : World} {G G' : Hp} {a : Addr} {o : Obj} {ks : List NestedKey} {ws : List V} (e : ∀ a o, G a = some o → G' a = some o) (h : NIs w G a o ks ws) : NIs w G' a o ks ws := by
  obtain ⟨h1, xs, h2, h3, h4, h5⟩ := h
  exact ⟨h1, xs, h2, h3, fun x hx => KeyG.mono e _ (h4 x hx), h5⟩
theorem NIs.dict {w : World} {G : Hp} {a : Addr} {o : Obj} {ks : List NestedKey} {ws : List V} (h : NIs w G a o ks ws) : o.ExactDict ∧ ∃ es ep, o.data = .dict es ep := by
  obtain ⟨_, xs, h2, _⟩ := h
  obtain ⟨es, ep, e, _⟩ := h2.dat
  exact ⟨h2.ex, es, ep, e⟩
def MemO (w : World) (a : Addr) (xs : List NRow) : HO := .ext fun h => ∃ o, h.get? a = some o ∧ NObj w o xs
theorem memO_ntup {w : World} {a : Addr} {xs : List NRow} (vs : List V) : MemO w a xs ≠ .tup vs := fun z => by unfold MemO at z; cases z
theorem memO_nodk {w : World} {a : Addr} {xs : List NRow} : ¬ IsDk a (fun h => ∃ o, h.get? a = some o ∧ NObj w o xs) := fun ⟨o, hx, ⟨es, ep, hd⟩, e⟩ => by
  obtain ⟨H, hH⟩ := heap_of (a := a) (o := o) ⟨es, ep, hd⟩
  have z := congrFun e H
  simp only [hH, Option.some.injEq, exists_eq_left', eq_iff_iff, iff_true] at z
  obtain ⟨H2, hH2⟩ := heap_of (a := a) (o := { o with data := .dict es (ep + 1) }) ⟨es, ep + 1, rfl⟩
  have z2 := congrFun e H2
  simp only [hH2, Option.some.injEq, exists_eq_left', eq_iff_iff] at z2
  have n2 : NObj w { o with data := .dict es (ep + 1) } xs := by
    obtain ⟨ex, ⟨es', ep', hd', hl⟩, nd, dp⟩ := z
    rw [hd] at hd'
    cases hd'
    exact ⟨ex, ⟨es, ep + 1, rfl, hl⟩, nd, dp⟩
  have z3 := congrArg (fun x : Obj => x.data) (z2.1 n2)
  simp only [hd] at z3
  injection z3 with _ z4
  omega
end MH
namespace ML
open PySem L2

inductive D where
  | non | bl (b : Bool) | int (i : Int) | str (s : Str) | tup (xs : List D) | lst (xs : List D)
  | scr (ns : List Int) | dn (ks : List NestedKey) (xs : List D) | dk (ks : List Key) (xs : List D) | dt (ks : List (List Key)) (xs : List D) | obj (c : Nat) (fs : List Str) (xs : List D)
  | mo (c : Nat) (fs : List Str) (xs : List D) (gh : List NestedKey)
  deriving Inhabited

def Ex (H H' : Hp) : Prop := ∀ a o, H a = some o → H' a = some o
theorem Ex.refl (H : Hp) : Ex H H := fun _ _ h => h
theorem Ex.trans {H H1 H2 : Hp} (a : Ex H H1) (b : Ex H1 H2) : Ex H H2 := fun x o h => b x o (a x o h)
theorem Ex.free {H H' : Hp} {p : Addr} (e : Ex H H') (h : H' p = none) : H p = none := by
  cases q : H p with
  | none => rfl
  | some o => rw [e p o q] at h; cases h
theorem Ex.upd {H : Hp} {p : Addr} {o : HO} (h : H p = none) : Ex H (upd H p o) := fun a u e => by
  rw [upd_ne (ne_of_none e h)]; exact e
theorem Ex.both {G H : Hp} {p : Addr} {o : HO} (e : Ex G H) : Ex (L2.upd G p o) (L2.upd H p o) := fun a u q => by
  by_cases h : a = p
  · subst h; rw [upd_same] at q ⊢; exact q
  · rw [upd_ne h] at q ⊢; exact e a u q
theorem Ex.mut {G H : Hp} {p : Addr} {o : HO} (e : Ex G H) (h : G p = none) : Ex G (L2.upd H p o) := fun a u ha => by
  rw [upd_ne (ne_of_none ha h)]; exact e a u ha
theorem ex_rd {H H' : Hp} {a : Addr} {u : HO} (e : Ex H H') (h : Rd H a u) : Rd H' a u := by
  rcases h with h | ⟨o, h⟩
  · exact Or.inl (e a _ h)
  · exact Or.inr ⟨o, e a _ h⟩
theorem ex_l {K : PySem.W.Frag} {H H' : Hp} {a : Addr} {xs : List V} (e : Ex H H') (h : SqL K H a xs) : SqL K H' a xs := by
  rcases h with h | h
  · exact Or.inl (ex_rd e h)
  · exact Or.inr h
theorem ex_t {K : PySem.W.Frag} {H H' : Hp} {a : Addr} {xs : List V} (e : Ex H H') (h : H a = some (.tup xs)) : SqT K H' a xs := SqT.of (e _ _ h)

structure Tk where
  fst : Addr
  snd : Str
  me : Option (NestedKey → D → Prop) := none
instance : Coe (Addr × Str) Tk := ⟨fun p => ⟨p.1, p.2, none⟩⟩
def knownS : Str := "known"
structure Uv where
  K : PySem.W.Frag
  cl : Nat → Addr
  xc : Nat → Addr
  ea : Addr := 0
  ec : Value := .none
  ed : Option Addr := none
  tb : List Tk := []
  mo : Option (Addr × Addr × D) := none
  w : World

mutual
def Rep (u : Uv) (G : Hp) : D → V → Prop
  | .non, v => v = .non
  | .bl b, v => v = .bl b
  | .int i, v => v = .int i
  | .str s, v => v = .str s
  | .tup ds, v => ∃ a vs, v = .ref a ∧ G a = some (.tup vs) ∧ RepL u G ds vs
  | .lst ds, v => ∃ a vs, v = .ref a ∧ G a = some (.lst vs) ∧ RepL u G ds vs
  | .scr ns, v => ∃ a, v = .ref a ∧ SqL u.K G a (ns.map V.int)
  | .dk ks ds, v => ∃ a ws, v = .ref a ∧ G a = some (.dK (ks.zip ws)) ∧ ks.length = ws.length ∧ RepL u G ds ws
  | .dt ks ds, v => ∃ a ws, v = .ref a ∧ G a = some (.dT (ks.zip ws)) ∧ ks.length = ws.length ∧ RepL u G ds ws
  | .dn ks ds, v => ∃ a o ws, v = .ref a ∧ G a = some (MH.AtO a o) ∧ MH.NIs u.w G a o ks ws ∧ RepL u G ds ws
  | .obj c fs ds, v => ∃ a dx ws, v = .ref a ∧ G a = some (.ins (u.cl c) dx (fs.zip ws)) ∧ fs.length = ws.length ∧ RepL u G ds ws
  | .mo c fs ds gh, v => ∃ a m dx ws, u.mo = some (a, m, .mo c fs ds gh) ∧ v = .ref a ∧ G a = some (.ins (u.cl c) dx (fs.zip ws ++ [(knownS, .ref m)])) ∧ fs.length = ws.length ∧ RepL u G ds ws
def RepL (u : Uv) (G : Hp) : List D → List V → Prop
  | [], vs => vs = []
  | d :: ds, vs => ∃ v r, vs = v :: r ∧ Rep u G d v ∧ RepL u G ds r
end
section
variable {u : Uv} {G G' : Hp}
mutual
theorem Rep.mono (e : Ex G G') : ∀ (d : D) {v : V}, Rep u G d v → Rep u G' d v
  | .non, _, h => h
  | .bl _, _, h => h
  | .int _, _, h => h
  | .str _, _, h => h
  | .tup ds, v, h => by
    simp only [Rep] at h ⊢
    obtain ⟨a, vs, r, s, t⟩ := h
    exact ⟨a, vs, r, e _ _ s, RepL.mono e ds t⟩
  | .lst ds, v, h => by
    simp only [Rep] at h ⊢
    obtain ⟨a, vs, r, s, t⟩ := h
    exact ⟨a, vs, r, e _ _ s, RepL.mono e ds t⟩
  | .scr ns, v, h => by
    simp only [Rep] at h ⊢
    obtain ⟨a, r, s⟩ := h
    exact ⟨a, r, ex_l e s⟩
  | .dk ks ds, v, h => by
    simp only [Rep] at h ⊢
    obtain ⟨a, ws, r, s, l, t⟩ := h
    exact ⟨a, ws, r, e _ _ s, l, RepL.mono e ds t⟩
  | .dt ks ds, v, h => by
    simp only [Rep] at h ⊢
    obtain ⟨a, ws, r, s, l, t⟩ := h
    exact ⟨a, ws, r, e _ _ s, l, RepL.mono e ds t⟩
  | .dn ks ds, v, h => by
    simp only [Rep] at h ⊢
    obtain ⟨a, o, ws, r, s, l, t⟩ := h
    exact ⟨a, o, ws, r, e _ _ s, l.mono e, RepL.mono e ds t⟩
  | .obj c fs ds, v, h => by
    simp only [Rep] at h ⊢
    obtain ⟨a, dx, ws, r, s, l, t⟩ := h
    exact ⟨a, dx, ws, r, e _ _ s, l, RepL.mono e ds t⟩
  | .mo c fs ds gh, v, h => by
    simp only [Rep] at h ⊢
    obtain ⟨a, m, dx, ws, q, r, s, l, t⟩ := h
    exact ⟨a, m, dx, ws, q, r, e _ _ s, l, RepL.mono e ds t⟩
theorem RepL.mono (e : Ex G G') : ∀ (ds : List D) {vs : List V}, RepL u G ds vs → RepL u G' ds vs
  | [], _, h => h
  | d :: ds, vs, h => by
    simp only [RepL] at h ⊢
    obtain ⟨v, r, q, h1, h2⟩ := h
    exact ⟨v, r, q, Rep.mono e d h1, RepL.mono e ds h2⟩
end
theorem RepL.length : ∀ {ds : List D} {vs : List V}, RepL u G ds vs → ds.length = vs.length
  | [], _, h => by simp only [RepL] at h; subst h; rfl
  | d :: ds, vs, h => by
    simp only [RepL] at h
    obtain ⟨v, r, rfl, _, h2⟩ := h
    simp [RepL.length h2]
theorem RepL.get : ∀ {ds : List D} {vs : List V} {i : Nat} {d : D}, RepL u G ds vs → ds[i]? = some d → ∃ v, vs[i]? = some v ∧ Rep u G d v
  | [], _, _, _, _, e => by simp at e
  | d :: ds, vs, 0, x, h, e => by
    simp only [RepL] at h
    obtain ⟨v, r, rfl, h1, _⟩ := h
    simp at e; subst e
    exact ⟨v, rfl, h1⟩
  | d :: ds, vs, i + 1, x, h, e => by
    simp only [RepL] at h
    obtain ⟨v, r, rfl, _, h2⟩ := h
    simpa using RepL.get (i := i) h2 (by simpa using e)
theorem RepL.append : ∀ {ds es : List D} {vs ws : List V}, RepL u G ds vs → RepL u G es ws → RepL u G (ds ++ es) (vs ++ ws)
  | [], _, _, _, h, h' => by simp only [RepL] at h; subst h; exact h'
  | d :: ds, es, vs, ws, h, h' => by
    simp only [RepL] at h
    obtain ⟨v, r, rfl, h1, h2⟩ := h
    exact ⟨v, r ++ ws, rfl, h1, RepL.append h2 h'⟩
theorem RepL.one {d : D} {v : V} (h : Rep u G d v) : RepL u G [d] [v] := ⟨v, [], rfl, h, rfl⟩
theorem RepL.snoc {ds : List D} {vs : List V} {d : D} {v : V} (h : RepL u G ds vs) (h' : Rep u G d v) : RepL u G (ds ++ [d]) (vs ++ [v]) := h.append (RepL.one h')
theorem RepL.take : ∀ {ds : List D} {vs : List V} (n : Nat), RepL u G ds vs → RepL u G (ds.take n) (vs.take n)
  | _, _, 0, _ => by simp [RepL]
  | [], _, n + 1, h => by simp only [RepL] at h; subst h; simp [RepL]
  | d :: ds, vs, n + 1, h => by
    simp only [RepL] at h
    obtain ⟨v, r, rfl, h1, h2⟩ := h
    exact ⟨v, r.take n, rfl, h1, RepL.take n h2⟩
theorem RepL.drop : ∀ {ds : List D} {vs : List V} (n : Nat), RepL u G ds vs → RepL u G (ds.drop n) (vs.drop n)
  | _, _, 0, h => h
  | [], _, n + 1, h => by simp only [RepL] at h; subst h; simp [RepL]
  | d :: ds, vs, n + 1, h => by
    simp only [RepL] at h
    obtain ⟨v, r, rfl, h1, h2⟩ := h
    exact RepL.drop n h2
theorem RepL.set : ∀ {ds : List D} {vs : List V} (n : Nat) {d : D} {v : V}, RepL u G ds vs → Rep u G d v → RepL u G (ds.set n d) (vs.set n v)
  | [], _, _, _, _, h, _ => by simp only [RepL] at h; subst h; simp [RepL]
  | d :: ds, vs, 0, e, w, h, h' => by
    simp only [RepL] at h
    obtain ⟨v, r, rfl, h1, h2⟩ := h
    exact ⟨w, r, rfl, h', h2⟩
  | d :: ds, vs, n + 1, e, w, h, h' => by
    simp only [RepL] at h
    obtain ⟨v, r, rfl, h1, h2⟩ := h
    exact ⟨v, r.set n w, rfl, h1, RepL.set n h2 h'⟩
theorem RepL.dropLast : ∀ {ds : List D} {vs : List V}, RepL u G ds vs → RepL u G ds.dropLast vs.dropLast := fun {ds vs} h => by
  rw [List.dropLast_eq_take, List.dropLast_eq_take, h.length]
  exact h.take _
end

structure Xn where
  c : Nat
  fs : List Str
  ds : List D
inductive Sl where
  | no | fz (d : D) | ow (d : D) | xn (x : Xn)
  deriving Inhabited
abbrev Env := List Sl
def Own (u : Uv) (G H : Hp) (l : Addr) : D → Prop
  | .lst ds => ∃ vs, H l = some (.lst vs) ∧ RepL u G ds vs
  | .dk ks ds => ∃ ws, H l = some (.dK (ks.zip ws)) ∧ ks.length = ws.length ∧ RepL u G ds ws
  | .dt ks ds => ∃ ws, H l = some (.dT (ks.zip ws)) ∧ ks.length = ws.length ∧ RepL u G ds ws
  | .dn ks ds => ∃ o ws, H l = some (MH.AtO l o) ∧ MH.NIs u.w G l o ks ws ∧ RepL u G ds ws
  | .obj c fs ds => ∃ dx ws, H l = some (.ins (u.cl c) dx (fs.zip ws)) ∧ fs.length = ws.length ∧ RepL u G ds ws
  | _ => False
theorem Own.mono {u : Uv} {G G' H H' : Hp} {l : Addr} {d : D} (h : Own u G H l d) (e : Ex G G') (eh : ∀ o, H l = some o → H' l = some o) : Own u G' H' l d := by
  cases d with
  | lst ds => obtain ⟨vs, a, b⟩ := h; exact ⟨vs, eh _ a, RepL.mono e _ b⟩
  | dk ks ds => obtain ⟨vs, a, l, b⟩ := h; exact ⟨vs, eh _ a, l, RepL.mono e _ b⟩
  | dt ks ds => obtain ⟨vs, a, l, b⟩ := h; exact ⟨vs, eh _ a, l, RepL.mono e _ b⟩
  | dn ks ds => obtain ⟨o, vs, a, l, b⟩ := h; exact ⟨o, vs, eh _ a, l.mono e, RepL.mono e _ b⟩
  | obj c fs ds => obtain ⟨dx, vs, a, l, b⟩ := h; exact ⟨dx, vs, eh _ a, l, RepL.mono e _ b⟩
  | _ => exact h.elim
theorem Own.has {u : Uv} {G H : Hp} {l : Addr} {d : D} (h : Own u G H l d) : ∃ o, H l = some o := by
  cases d with
  | lst ds => obtain ⟨vs, a, b⟩ := h; exact ⟨_, a⟩
  | dk ks ds => obtain ⟨vs, a, l, b⟩ := h; exact ⟨_, a⟩
  | dt ks ds => obtain ⟨vs, a, l, b⟩ := h; exact ⟨_, a⟩
  | dn ks ds => obtain ⟨o, vs, a, l, b⟩ := h; exact ⟨_, a⟩
  | obj c fs ds => obtain ⟨dx, vs, a, l, b⟩ := h; exact ⟨_, a⟩
  | _ => exact h.elim
def XnOk (u : Uv) (G : Hp) (x : Xn) (cls : Value) (dd : Option Addr) : Prop :=
  cls = .ref (u.xc x.c) ∧ ((dd = none ∧ x.fs = []) ∨ ∃ d ws, dd = some d ∧ G d = some (.xd (x.fs.zip ws)) ∧ x.fs.length = ws.length ∧ RepL u G x.ds ws)
theorem XnOk.mono {u : Uv} {G G' : Hp} {x : Xn} {cls : Value} {dd : Option Addr} (h : XnOk u G x cls dd) (e : Ex G G') : XnOk u G' x cls dd := by
  obtain ⟨h1, h2 | ⟨d, ws, a, b, c, r⟩⟩ := h
  · exact ⟨h1, .inl h2⟩
  · exact ⟨h1, .inr ⟨d, ws, a, e _ _ b, c, RepL.mono e _ r⟩⟩
def SlOk (u : Uv) (B G H : Hp) (o : Option V) : Sl → Prop
  | .no => True
  | .xn x => o = some (.ref u.ea) ∧ XnOk u G x u.ec u.ed
  | .fz d => ∃ v, o = some v ∧ Rep u G d v
  | .ow d => ∃ l, o = some (.ref l) ∧ G l = none ∧ B l = none ∧ Own u G H l d
def Nw (B G G' : Hp) : Prop := ∀ a o, B a = some o → G' a = G a ∨ ∃ vs, o = .tup vs
theorem Nw.refl {B G : Hp} : Nw B G G := fun _ _ _ => .inl rfl
theorem Nw.of {B G G' : Hp} (h : ∀ a o, B a = some o → G' a = G a) : Nw B G G' := fun a o e => .inl (h a o e)
theorem Nw.trans {B G G1 G2 : Hp} (h1 : Nw B G G1) (h2 : Nw B G1 G2) : Nw B G G2 := fun a o e => by
  rcases h2 a o e with q | q
  · rcases h1 a o e with p | p
    · exact .inl (q.trans p)
    · exact .inr p
  · exact .inr q
theorem Nw.less {B B' G G' : Hp} (h : Nw B' G G') (e : Ex B B') : Nw B G G' := fun a o q => h a o (e a o q)
theorem Nw.at_ {B G G' : Hp} (h : Nw B G G') {a : Addr} {o : HO} (e : B a = some o) (ht : ∀ vs, o ≠ .tup vs) : G' a = G a := by
  rcases h a o e with q | ⟨vs, q⟩
  · exact q
  · exact absurd q (ht vs)
theorem Own.ntup {u : Uv} {G H : Hp} {l : Addr} {d : D} (h : Own u G H l d) {o : HO} (e : H l = some o) : ∀ vs, o ≠ .tup vs := by
  intro vs q
  subst q
  cases d with
  | lst ds => obtain ⟨vs, a, b⟩ := h; rw [a] at e; cases e
  | dk ks ds => obtain ⟨vs, a, l, b⟩ := h; rw [a] at e; cases e
  | dt ks ds => obtain ⟨vs, a, l, b⟩ := h; rw [a] at e; cases e
  | dn ks ds => obtain ⟨o, vs, a, l, b⟩ := h; rw [a] at e; unfold MH.AtO at e; cases e
  | obj c fs ds => obtain ⟨dx, vs, a, l, b⟩ := h; rw [a] at e; cases e
  | _ => exact h.elim
theorem Own.ntbl {u : Uv} {G H : Hp} {l : Addr} {d : D} (h : Own u G H l d) : ∃ o, H l = some o ∧ (∀ ps, o ≠ .tbl ps) ∧ ∀ φ, o = .ext φ → MH.IsDk l φ := by
  cases d with
  | lst ds => obtain ⟨vs, a, b⟩ := h; exact ⟨_, a, (by intro _ z; cases z), (by intro _ z; cases z)⟩
  | dk ks ds => obtain ⟨vs, a, l, b⟩ := h; exact ⟨_, a, (by intro _ z; cases z), (by intro _ z; cases z)⟩
  | dt ks ds => obtain ⟨vs, a, l, b⟩ := h; exact ⟨_, a, (by intro _ z; cases z), (by intro _ z; cases z)⟩
  | dn ks ds => obtain ⟨o, vs, a, l, b⟩ := h; exact ⟨_, a, (by intro _ z; unfold MH.AtO at z; cases z), (by intro _ z; unfold MH.AtO at z; cases z; exact ⟨o, l.dict.1, l.dict.2, rfl⟩)⟩
  | obj c fs ds => obtain ⟨dx, vs, a, l, b⟩ := h; exact ⟨_, a, (by intro _ z; cases z), (by intro _ z; cases z)⟩
  | _ => exact h.elim
theorem Own.ntt {u : Uv} {G H : Hp} {l : Addr} {d : D} {o : HO} (h : Own u G H l d) (e : H l = some o) : ∀ ps, o ≠ .tbl ps := by
  obtain ⟨o', a, b, _⟩ := h.ntbl
  rw [a] at e
  cases e
  exact b
theorem Own.nx {u : Uv} {G H : Hp} {l : Addr} {d : D} {o : HO} (h : Own u G H l d) (e : H l = some o) : ∀ φ, o = .ext φ → MH.IsDk l φ := by
  obtain ⟨o', a, _, b⟩ := h.ntbl
  rw [a] at e
  cases e
  exact b
def MemT (u : Uv) (G H : Hp) (m : Addr) (P : NestedKey → D → Prop) : Prop :=
  ∃ (xs : List MH.NRow) (ds : List D) (ws : List V), H m = some (MH.MemO u.w m xs) ∧ (∃ o, o.ExactDict ∧ MH.NObj u.w o xs) ∧ (m == sysModules) = false ∧ (∀ x ∈ xs, MH.KeyG G x.1 (.ref x.2.1)) ∧ Vals ws (xs.map (·.2.2)) ∧ RepL u G ds ws ∧
    ∀ (i : Nat) (k : NestedKey) (d : D), (xs.map (·.1))[i]? = some k → ds[i]? = some d → P k d
theorem MemT.mono {u : Uv} {G G' H H' : Hp} {m : Addr} {P : NestedKey → D → Prop} (h : MemT u G H m P) (e : Ex G G') (eh : ∀ o, H m = some o → H' m = some o) : MemT u G' H' m P := by
  obtain ⟨xs, ds, ws, h1, h0, h2, h3, h4, h5, h6⟩ := h
  exact ⟨xs, ds, ws, eh _ h1, h0, h2, fun x hx => MH.KeyG.mono e _ (h3 x hx), h4, RepL.mono e _ h5, h6⟩
def TabT (u : Uv) (G H : Hp) (p : Tk) : Prop := match p.me with
  | none => LamX.TabS H p.1 p.2
  | some P => MemT u G H p.1 P
def TabsOk (u : Uv) (B G H : Hp) : Prop := ∀ p ∈ u.tb, TabT u G H p ∧ G p.1 = none ∧ B p.1 = none
def Nt (l : Addr) (o : HO) : Prop := (∀ ps, o ≠ .tbl ps) ∧ ∀ φ, o = .ext φ → MH.IsDk l φ
theorem Own.nt {u : Uv} {G H : Hp} {l : Addr} {d : D} {o : HO} (h : Own u G H l d) (e : H l = some o) : Nt l o := ⟨h.ntt e, h.nx e⟩
section
variable {u : Uv} {B B' G G' H H' : Hp}
theorem TabT.has {p : Tk} (t : TabT u G H p) : ∃ o, H p.1 = some o ∧ (∀ vs, o ≠ .tup vs) ∧ ¬ Nt p.1 o := by
  unfold TabT at t
  cases e : p.me with
  | none =>
    rw [e] at t
    obtain ⟨ps, h1, _⟩ := t
    exact ⟨_, h1, (fun vs z => by cases z), fun n => n.1 _ rfl⟩
  | some P =>
    rw [e] at t
    obtain ⟨xs, ds, ws, h1, _⟩ := t
    exact ⟨_, h1, MH.memO_ntup, fun n => MH.memO_nodk (n.2 _ rfl)⟩
theorem TabT.free {p : Tk} (h : p.me = none) (t : TabT u G H p) : TabT u G' H p := by
  unfold TabT at t ⊢
  rw [h] at t ⊢
  exact t
theorem TabT.mono {p : Tk} (t : TabT u G H p) (e : Ex G G') (eh : Ex H H') : TabT u G' H' p := by
  unfold TabT at t ⊢
  cases h : p.me with
  | none => rw [h] at t; exact t.ext eh
  | some P => rw [h] at t; exact t.mono e fun _ z => eh _ _ z
theorem TabsOk.grow (t : TabsOk u B G H) (e : Ex G G') (gb : Nw H G G') (eh : Ex H H') : TabsOk u B G' H' := fun p hp => by
  obtain ⟨t1, t2, t3⟩ := t p hp
  obtain ⟨o, q1, q2, _⟩ := t1.has
  refine ⟨?_, (gb.at_ q1 q2).trans t2, t3⟩
  unfold TabT at t1 ⊢
  cases h : p.me with
  | none => rw [h] at t1; exact t1.ext eh
  | some P => rw [h] at t1; exact t1.mono e fun _ z => eh _ _ z
theorem TabsOk.chg (t : TabsOk u B G H) {l : Addr} {o : HO} (hl : H l = some o) (n1 : ∀ ps, o ≠ .tbl ps) (n2 : ∀ φ, o = .ext φ → MH.IsDk l φ) (gb : ∀ a o, a ≠ l → H a = some o → (∀ vs, o ≠ .tup vs) → G' a = G a) (eh : ∀ a o, a ≠ l → H a = some o → H' a = some o) (e : Ex G G' := by exact Ex.refl _) : TabsOk u B G' H' := fun p hp => by
  obtain ⟨t1, t2, t3⟩ := t p hp
  obtain ⟨x, q1, q2, q3⟩ := t1.has
  have np : p.1 ≠ l := fun z => by
    rw [z] at q1 q3
    rw [hl] at q1
    cases q1
    exact q3 ⟨n1, n2⟩
  refine ⟨?_, (gb _ _ np q1 q2).trans t2, t3⟩
  unfold TabT at t1 ⊢
  cases h : p.me with
  | none =>
    rw [h] at t1
    obtain ⟨ps, h1, h2, h3⟩ := t1
    refine ⟨ps, eh _ _ np h1, h2, fun pos cv hc => ?_⟩
    obtain ⟨c, e1, e2⟩ := h3 pos cv hc
    exact ⟨c, e1, eh _ _ (fun z => by subst z; rw [hl] at e2; exact MH.codeO_nodk (n2 _ (Option.some.inj e2))) e2⟩
  | some P => rw [h] at t1; exact t1.mono e fun o z => eh _ _ np z
theorem TabsOk.base (t : TabsOk u B G H) (hb : ∀ p ∈ u.tb, B p.1 = none → B' p.1 = none) : TabsOk u B' G H := fun p hp => by
  obtain ⟨a, b, c⟩ := t p hp
  exact ⟨a, b, hb p hp c⟩
theorem TabsOk.nil (h : u.tb = []) : TabsOk u B G H := fun p hp => by rw [h] at hp; cases hp
theorem TabsOk.ne (t : TabsOk u B G H) {l : Addr} {o : HO} (hl : H l = some o) (n1 : Nt l o) : ∀ p ∈ u.tb, p.1 ≠ l := fun p hp z => by
  obtain ⟨x, q1, _, q3⟩ := (t p hp).1.has
  rw [z] at q1 q3
  rw [hl] at q1
  cases q1
  exact q3 n1
end
structure RepE (u : Uv) (B G0 G H : Hp) (σ : St) (ε : Env) : Prop where
  len : σ.length = ε.length
  g0 : Ex G0 G
  gb : Nw B G0 G
  gh : Ex G H
  bh : Ex B H
  sl : ∀ (i : Nat) (s : Sl), ε[i]? = some s → ∃ o, σ[i]? = some o ∧ SlOk u B G H o s
  dj : ∀ (i j : Nat) (a : Addr) (d d' : D), i ≠ j → ε[i]? = some (.ow d) → ε[j]? = some (.ow d') → σ[i]? = some (some (.ref a)) → σ[j]? ≠ some (some (.ref a))
  tb : TabsOk u B G H
section
variable {u : Uv} {B G0 G G' H H' : Hp} {σ : St} {ε : Env}
theorem RepE.grow (R : RepE u B G0 G H σ ε) (e : Ex G G') (gb : Nw H G G') (eh : Ex H H') (gh : Ex G' H') : RepE u B G0 G' H' σ ε := by
  refine ⟨R.len, R.g0.trans e, R.gb.trans (gb.less R.bh), gh, R.bh.trans eh, fun i s h => ?_, R.dj, R.tb.grow e gb eh⟩
  obtain ⟨o, h1, h2⟩ := R.sl i s h
  refine ⟨o, h1, ?_⟩
  cases s with
  | no => trivial
  | xn x => exact ⟨h2.1, h2.2.mono e⟩
  | fz d => obtain ⟨v, a, b⟩ := h2; exact ⟨v, a, b.mono e⟩
  | ow d =>
    obtain ⟨l, a, b, c, w⟩ := h2
    obtain ⟨ob, q⟩ := w.has
    exact ⟨l, a, (gb.at_ q (w.ntup q)).trans b, c, w.mono e fun _ z => eh _ _ z⟩
theorem RepE.new (R : RepE u B G0 G H σ ε) {p : Addr} (hp : H p = none) (o : HO) : RepE u B G0 (upd G p o) (upd H p o) σ ε :=
  R.grow (Ex.upd (R.gh.free hp)) (Nw.of fun a _ h => upd_ne (ne_of_none h hp)) (Ex.upd hp) R.gh.both
theorem RepE.exn (R : RepE u B G0 G H σ ε) {p : Addr} (hp : H p = none) (o : HO) : Ex G (upd G p o) := Ex.upd (R.gh.free hp)
theorem RepE.lay (R : RepE u B G0 G H σ ε) {p : Addr} (hp : H p = none) (o : HO) : RepE u B G0 G (upd H p o) σ ε :=
  R.grow (Ex.refl _) Nw.refl (Ex.upd hp) (R.gh.trans (Ex.upd hp))
theorem RepE.free (R : RepE u B G0 G H σ ε) {p : Addr} (hp : H p = none) : G p = none ∧ B p = none ∧ G0 p = none := ⟨R.gh.free hp, R.bh.free hp, R.g0.free (R.gh.free hp)⟩
theorem RepE.setF (R : RepE u B G0 G H σ ε) (i : Nat) {d : D} {v : V} (h : Rep u G d v) : RepE u B G0 G H (σ.set i (some v)) (ε.set i (.fz d)) := by
  refine ⟨by simp [R.len], R.g0, R.gb, R.gh, R.bh, fun j s hs => ?_, fun j k a d1 d2 hjk h1 h2 h3 => ?_, R.tb⟩
  · by_cases hj : j = i
    · subst hj
      have hl : j < ε.length := by
        have := List.getElem?_eq_some_iff.mp hs
        simpa using this.1
      rw [List.getElem?_set_self hl] at hs
      cases hs
      exact ⟨some v, List.getElem?_set_self (by rw [R.len]; exact hl), v, rfl, h⟩
    · rw [List.getElem?_set_ne (Ne.symm hj)] at hs ⊢
      exact R.sl j s hs
  · have hj : j ≠ i := fun e => by
      subst e
      by_cases hl : j < ε.length
      · rw [List.getElem?_set_self hl] at h1; cases h1
      · rw [List.getElem?_eq_none (by simpa using hl)] at h1; cases h1
    have hk : k ≠ i := fun e => by
      subst e
      by_cases hl : k < ε.length
      · rw [List.getElem?_set_self hl] at h2; cases h2
      · rw [List.getElem?_eq_none (by simpa using hl)] at h2; cases h2
    rw [List.getElem?_set_ne (Ne.symm hj)] at h1 h3
    rw [List.getElem?_set_ne (Ne.symm hk)] at h2 ⊢
    exact R.dj j k a d1 d2 hjk h1 h2 h3
def Apart (σ : St) (ε : Env) (l : Addr) : Prop := ∀ (i : Nat) (d : D), ε[i]? = some (.ow d) → σ[i]? ≠ some (some (.ref l))
theorem RepE.setO (R : RepE u B G0 G H σ ε) (i : Nat) {d : D} {l : Addr} (hg : G l = none) (hb : B l = none) (ho : Own u G H l d) (ha : Apart σ ε l) : RepE u B G0 G H (σ.set i (some (.ref l))) (ε.set i (.ow d)) := by
  refine ⟨by simp [R.len], R.g0, R.gb, R.gh, R.bh, fun j s hs => ?_, fun j k a d1 d2 hjk h1 h2 h3 => ?_, R.tb⟩
  · by_cases hj : j = i
    · subst hj
      have hl : j < ε.length := by
        have := List.getElem?_eq_some_iff.mp hs
        simpa using this.1
      rw [List.getElem?_set_self hl] at hs
      cases hs
      exact ⟨some (.ref l), List.getElem?_set_self (by rw [R.len]; exact hl), l, rfl, hg, hb, ho⟩
    · rw [List.getElem?_set_ne (Ne.symm hj)] at hs ⊢
      exact R.sl j s hs
  · by_cases hj : j = i
    · have hk : k ≠ i := fun e => hjk (hj.trans e.symm)
      rw [List.getElem?_set_ne (Ne.symm hk)] at h2 ⊢
      subst hj
      have hl : j < σ.length := by
        have := List.getElem?_eq_some_iff.mp h3
        simpa using this.1
      rw [List.getElem?_set_self hl] at h3
      cases h3
      exact ha k d2 h2
    · rw [List.getElem?_set_ne (Ne.symm hj)] at h1 h3
      by_cases hk : k = i
      · subst hk
        intro h4
        have hl : k < σ.length := by
          have := List.getElem?_eq_some_iff.mp h4
          simpa using this.1
        rw [List.getElem?_set_self hl] at h4
        cases h4
        exact ha j d1 h1 h3
      · rw [List.getElem?_set_ne (Ne.symm hk)] at h2 ⊢
        exact R.dj j k a d1 d2 hjk h1 h2 h3
theorem RepE.setN (R : RepE u B G0 G H σ ε) (i : Nat) (o : Option V) : RepE u B G0 G H (σ.set i o) (ε.set i .no) := by
  refine ⟨by simp [R.len], R.g0, R.gb, R.gh, R.bh, fun j s hs => ?_, fun j k a d1 d2 hjk h1 h2 h3 => ?_, R.tb⟩
  · by_cases hj : j = i
    · subst hj
      have hl : j < ε.length := by
        have := List.getElem?_eq_some_iff.mp hs
        simpa using this.1
      rw [List.getElem?_set_self hl] at hs
      cases hs
      exact ⟨o, List.getElem?_set_self (by rw [R.len]; exact hl), trivial⟩
    · rw [List.getElem?_set_ne (Ne.symm hj)] at hs ⊢
      exact R.sl j s hs
  · have hj : j ≠ i := fun e => by
      subst e
      by_cases hl : j < ε.length
      · rw [List.getElem?_set_self hl] at h1; cases h1
      · rw [List.getElem?_eq_none (by simpa using hl)] at h1; cases h1
    have hk : k ≠ i := fun e => by
      subst e
      by_cases hl : k < ε.length
      · rw [List.getElem?_set_self hl] at h2; cases h2
      · rw [List.getElem?_eq_none (by simpa using hl)] at h2; cases h2
    rw [List.getElem?_set_ne (Ne.symm hj)] at h1 h3
    rw [List.getElem?_set_ne (Ne.symm hk)] at h2 ⊢
    exact R.dj j k a d1 d2 hjk h1 h2 h3
end
end ML
end
section
set_option Elab.async false
set_option linter.all false
set_option maxRecDepth 100000
set_option maxHeartbeats 2000000
set_option autoImplicit false
namespace ML
open PySem L2

inductive Out (α : Type) where
  | ok (a : α) (ε : Env) | ex (x : Xn) (ε : Env) | bad
def Out.bnd {α β : Type} (o : Out α) (k : α → Env → Out β) : Out β := match o with
  | .ok a ε => k a ε
  | .ex x ε => .ex x ε
  | .bad => .bad
def Out.opt {α : Type} (o : Option α) (ε : Env) : Out α := match o with
  | some a => .ok a ε
  | none => .bad
def RepX (u : Uv) (G H : Hp) (x : Xn) (cls : Value) (dd : Option Addr) : Prop := XnOk u G x cls dd
def Pst {α : Type} (u : Uv) (W : WX) (B G0 : Hp) (σ : St) (G : Hp) (o : Out α) (S : α → Env → Hp → Hp → Prop) : Prop := match o with
  | .ok a ε => ∀ G' H', Ex G G' → RepE u B G0 G' H' σ ε → S a ε G' H'
  | .ex x ε => ∀ c dd G' H', Ex G G' → RepE u B G0 G' H' σ ε → RepX u G' H' x c dd → W c dd σ H'
  | .bad => False
section
variable {α β : Type} {u : Uv} {W : WX} {B G0 G G' H H' : Hp} {σ : St} {ε : Env}
theorem Pst.mono {o : Out α} {S S' : α → Env → Hp → Hp → Prop} (h : Pst u W B G0 σ G o S) (k : ∀ a ε' G' H', Ex G G' → RepE u B G0 G' H' σ ε' → S a ε' G' H' → S' a ε' G' H') : Pst u W B G0 σ G o S' := by
  cases o with
  | ok a ε => exact fun G' H' e R => k a ε G' H' e R (h G' H' e R)
  | ex x ε => exact h
  | bad => exact h
theorem Pst.up {o : Out α} {S : α → Env → Hp → Hp → Prop} (h : Pst u W B G0 σ G o S) (e : Ex G G') : Pst u W B G0 σ G' o S := by
  cases o with
  | ok a ε => exact fun G'' H' e' R => h G'' H' (e.trans e') R
  | ex x ε => exact fun c dd G'' H' e' R => h c dd G'' H' (e.trans e') R
  | bad => exact h
theorem Pst.bnd {o : Out α} {k : α → Env → Out β} {S : β → Env → Hp → Hp → Prop} (h : Pst u W B G0 σ G (o.bnd k) S) : Pst u W B G0 σ G o (fun a ε' G' _ => Pst u W B G0 σ G' (k a ε') S) := by
  cases o with
  | ok a ε => exact fun G' H' e _ => Pst.up (G := G) h e
  | ex x ε => exact h
  | bad => exact h
theorem Pst.ret {a : α} {S : α → Env → Hp → Hp → Prop} (h : Pst u W B G0 σ G (.ok a ε) S) (R : RepE u B G0 G H σ ε) : S a ε G H := h G H (Ex.refl _) R
theorem Pst.ret' {a : α} {S : α → Env → Hp → Hp → Prop} (h : Pst u W B G0 σ G (.ok a ε) S) (e : Ex G G') (R : RepE u B G0 G' H' σ ε) : S a ε G' H' := h G' H' e R
theorem Pst.opt {o : Option α} {S : α → Env → Hp → Hp → Prop} (h : Pst u W B G0 σ G (Out.opt o ε) S) : ∃ a, o = some a ∧ Pst u W B G0 σ G (.ok a ε) S := by
  cases o with
  | none => exact h.elim
  | some a => exact ⟨a, rfl, h⟩
end

def SE (u : Uv) (Q : VK) : D → Env → Hp → Hp → Prop := fun d _ G H => ∀ v, Rep u G d v → Q v H
def SL (u : Uv) (Q : List V → Hp → Prop) : List D → Env → Hp → Hp → Prop := fun ds _ G H => ∀ vs, RepL u G ds vs → Q vs H
def ST (Q : Bool → Hp → Prop) : Bool → Env → Hp → Hp → Prop := fun b _ _ H => Q b H
def SlV (u : Uv) (B G H : Hp) (σ : St) (ε : Env) (v : V) : Sl → Prop
  | .no => False
  | .xn _ => False
  | .fz d => Rep u G d v
  | .ow d => ∃ l, v = .ref l ∧ G l = none ∧ B l = none ∧ Own u G H l d ∧ Apart σ ε l
def SM (u : Uv) (B : Hp) (σ : St) (Q : VK) : Sl → Env → Hp → Hp → Prop := fun s ε G H => ∀ v, SlV u B G H σ ε v s → Q v H
def RzE (u : Uv) (W : WX) (te : TE) (f : Env → Out D) : Prop := ∀ B G0 G H σ ε Q, RepE u B G0 G H σ ε → Pst u W B G0 σ G (f ε) (SE u Q) → te σ H Q
def RzA (u : Uv) (W : WX) (ta : TA) (f : Env → Out (List D)) : Prop := ∀ B G0 G H σ ε Q, RepE u B G0 G H σ ε → Pst u W B G0 σ G (f ε) (SL u Q) → ta σ H Q
def RzT (u : Uv) (W : WX) (tt : TT) (f : Env → Out Bool) : Prop := ∀ B G0 G H σ ε Q, RepE u B G0 G H σ ε → Pst u W B G0 σ G (f ε) (ST Q) → tt σ H Q
def RzM (u : Uv) (W : WX) (te : TE) (f : Env → Out Sl) : Prop := ∀ B G0 G H σ ε Q, RepE u B G0 G H σ ε → Pst u W B G0 σ G (f ε) (SM u B σ Q) → te σ H Q
def RzR (u : Uv) (r : R2) (f : D → D → Option D) : Prop := ∀ x y d e z G H Q, Rep u G d x → Rep u G e y → f d e = some z → Ex G H →
  (∀ v G' H', Ex G G' → Ex H H' → Ex G' H' → Nw H G G' → Rep u G' z v → Q v H') → r x y H Q
def RzC (u : Uv) (r : List V → Hp → VK → Prop) (f : List D → Option D) : Prop := ∀ xs ds z G H Q, RepL u G ds xs → f ds = some z → Ex G H →
  (∀ v G' H', Ex G G' → Ex H H' → Ex G' H' → Nw H G G' → Rep u G' z v → Q v H') → r xs H Q

theorem set_same {α : Type} : ∀ {l : List α} {i : Nat} {x : α}, l[i]? = some x → l.set i x = l
  | [], _, _, h => by simp at h
  | a :: l, 0, x, h => by simp at h; subst h; rfl
  | a :: l, i + 1, x, h => by simp only [List.set_cons_succ]; rw [set_same (by simpa using h)]

def varF (i : Nat) : Env → Out D := fun ε => match ε[i]? with
  | some (.fz d) => .ok d ε
  | some (.ow d) => .ok d (ε.set i (.fz d))
  | _ => .bad
def cF (d : D) : Env → Out D := fun ε => .ok d ε
section
variable {u : Uv} {W : WX}
theorem Own.rep {G H : Hp} {l : Addr} {d : D} (h : Own u G H l d) : ∃ o, H l = some o ∧ ∀ G', Ex G G' → G' l = some o → Rep u G' d (.ref l) := by
  cases d with
  | lst ds => obtain ⟨vs, a, b⟩ := h; exact ⟨_, a, fun G' e q => by simp only [Rep]; exact ⟨l, vs, rfl, q, RepL.mono e _ b⟩⟩
  | dk ks ds => obtain ⟨vs, a, n, b⟩ := h; exact ⟨_, a, fun G' e q => by simp only [Rep]; exact ⟨l, vs, rfl, q, n, RepL.mono e _ b⟩⟩
  | dt ks ds => obtain ⟨vs, a, n, b⟩ := h; exact ⟨_, a, fun G' e q => by simp only [Rep]; exact ⟨l, vs, rfl, q, n, RepL.mono e _ b⟩⟩
  | dn ks ds => obtain ⟨o, vs, a, n, b⟩ := h; exact ⟨_, a, fun G' e q => by simp only [Rep]; exact ⟨l, o, vs, rfl, q, n.mono e, RepL.mono e _ b⟩⟩
  | obj c fs ds => obtain ⟨dx, vs, a, n, b⟩ := h; exact ⟨_, a, fun G' e q => by simp only [Rep]; exact ⟨l, dx, vs, rfl, q, n, RepL.mono e _ b⟩⟩
  | _ => exact h.elim
theorem know {G H : Hp} {l : Addr} {o : HO} (e : Ex G H) (hg : G l = none) (h : H l = some o) : Ex G (upd G l o) ∧ Ex (upd G l o) H := by
  refine ⟨Ex.upd hg, fun a x q => ?_⟩
  by_cases ha : a = l
  · subst ha; rw [upd_same] at q; cases q; exact h
  · rw [upd_ne ha] at q; exact e a x q
theorem RepE.frz {B G0 G H : Hp} {σ : St} {ε : Env} {l : Addr} {o : HO} (R : RepE u B G0 G H σ ε) (hg : G l = none) (hb : B l = none) (h : H l = some o) (ha : Apart σ ε l) (nt : Nt l o := by constructor <;> intro _ z <;> cases z) : RepE u B G0 (upd G l o) H σ ε := by
  obtain ⟨e1, e2⟩ := know R.gh hg h
  refine ⟨R.len, R.g0.trans e1, fun a x q => ?_, e2, R.bh, fun i s hs => ?_, R.dj, ?_⟩
  · rw [upd_ne (ne_of_none q hb)]; exact R.gb a x q
  · obtain ⟨v, h1, h2⟩ := R.sl i s hs
    refine ⟨v, h1, ?_⟩
    cases s with
    | no => trivial
    | xn x => exact ⟨h2.1, h2.2.mono e1⟩
    | fz d => obtain ⟨w, a, b⟩ := h2; exact ⟨w, a, b.mono e1⟩
    | ow d =>
      obtain ⟨m, a, b, c, w⟩ := h2
      have hm : m ≠ l := fun q => by subst q; exact ha i d hs (by rw [h1, a])
      exact ⟨m, a, by rw [upd_ne hm]; exact b, c, w.mono e1 fun _ z => z⟩
  · exact fun p hp => ⟨(R.tb p hp).1.mono e1 (Ex.refl _), by rw [upd_ne (R.tb.ne h nt p hp)]; exact (R.tb p hp).2.1, (R.tb p hp).2.2⟩
theorem rz_var (i : Nat) : RzE u W (tVar i) (varF i) := fun B G0 G H σ ε Q R h => by
  unfold varF at h
  cases e : ε[i]? with
  | none => rw [e] at h; exact h.elim
  | some s =>
    obtain ⟨o, h1, h2⟩ := R.sl i s e
    cases s with
    | no => rw [e] at h; exact h.elim
    | xn x => rw [e] at h; exact h.elim
    | fz d =>
      rw [e] at h
      obtain ⟨v, rfl, r⟩ := h2
      exact ⟨v, h1, h.ret R v r⟩
    | ow d =>
      rw [e] at h
      obtain ⟨l, rfl, hg, hb, w⟩ := h2
      obtain ⟨o, ho, hr⟩ := Own.rep w
      have il : i < ε.length := (List.getElem?_eq_some_iff.mp e).1
      have R' : RepE u B G0 G H σ (ε.set i .no) := by
        have q := R.setN i (some (.ref l))
        rwa [set_same h1] at q
      have ap : Apart σ (ε.set i .no) l := fun j d' hj hs => by
        by_cases hij : j = i
        · subst hij; rw [List.getElem?_set_self il] at hj; cases hj
        · rw [List.getElem?_set_ne (Ne.symm hij)] at hj
          exact R.dj i j l d d' (Ne.symm hij) e hj h1 hs
      have R2 := R'.frz hg hb ho ap (w.nt ho)
      have e1 := (know R.gh hg ho).1
      have rep : Rep u (upd G l o) d (.ref l) := hr _ e1 upd_same
      have R3 := R2.setF i rep
      rw [set_same h1, List.set_set] at R3
      exact ⟨.ref l, h1, h.ret' e1 R3 _ rep⟩

theorem rz_c {d : D} {v : V} (h : ∀ G, Rep u G d v) : RzE u W (tC v) (cF d) := fun B G0 G H σ ε Q R q => q.ret R v (h G)
theorem rz_int {i : Int} : RzE u W (tC (.int i)) (cF (.int i)) := rz_c fun _ => by simp only [Rep]
theorem rz_bl {i : Bool} : RzE u W (tC (.bl i)) (cF (.bl i)) := rz_c fun _ => by simp only [Rep]
theorem rz_str {i : Str} : RzE u W (tC (.str i)) (cF (.str i)) := rz_c fun _ => by simp only [Rep]
theorem rz_non : RzE u W (tC .non) (cF .non) := rz_c fun _ => by simp only [Rep]

def op2F (fa fb : Env → Out D) (f : D → D → Option D) : Env → Out D := fun ε => (fa ε).bnd fun x ε1 => (fb ε1).bnd fun y ε2 => Out.opt (f x y) ε2
theorem rz_op {ta tb : TE} {fa fb : Env → Out D} {r : R2} {f : D → D → Option D} (ha : RzE u W ta fa) (hb : RzE u W tb fb) (hr : RzR u r f) : RzE u W (tOp r ta tb) (op2F fa fb f) := fun B G0 G H σ ε Q R h =>
  ha _ _ _ _ _ _ _ R (h.bnd.mono fun x ε1 G1 H1 e1 R1 h1 v rv => hb _ _ _ _ _ _ _ R1 (h1.bnd.mono fun y ε2 G2 H2 e2 R2 h2 w rw => by
    obtain ⟨z, hz, h3⟩ := h2.opt
    exact hr v w x y z G2 H2 Q (rv.mono e2) rw hz R2.gh fun p G' H' eg eh egh gb rp => h3.ret' eg (R2.grow eg gb eh egh) p rp))
def op1F (fa : Env → Out D) (f : D → Option D) : Env → Out D := fun ε => (fa ε).bnd fun x ε1 => Out.opt (f x) ε1
def RzU (u : Uv) (r : V → Hp → VK → Prop) (f : D → Option D) : Prop := ∀ x d z G H Q, Rep u G d x → f d = some z → Ex G H →
  (∀ v G' H', Ex G G' → Ex H H' → Ex G' H' → Nw H G G' → Rep u G' z v → Q v H') → r x H Q
theorem rz_un {ta : TE} {fa : Env → Out D} {r : V → Hp → VK → Prop} {f : D → Option D} (ha : RzE u W ta fa) (hr : RzU u r f) : RzE u W (tUn r ta) (op1F fa f) := fun B G0 G H σ ε Q R h =>
  ha _ _ _ _ _ _ _ R (h.bnd.mono fun x ε1 G1 H1 e1 R1 h1 v rv => by
    obtain ⟨z, hz, h3⟩ := h1.opt
    exact hr v x z G1 H1 Q rv hz R1.gh fun p G' H' eg eh egh gb rp => h3.ret' eg (R1.grow eg gb eh egh) p rp)
def nilF : Env → Out (List D) := fun ε => .ok [] ε
def consF (fa : Env → Out D) (fr : Env → Out (List D)) : Env → Out (List D) := fun ε => (fa ε).bnd fun x ε1 => (fr ε1).bnd fun xs ε2 => .ok (x :: xs) ε2
theorem rz_nil : RzA u W tNil nilF := fun B G0 G H σ ε Q R h => h.ret R [] (by simp only [RepL])
theorem rz_cons {ta : TE} {tr : TA} {fa : Env → Out D} {fr : Env → Out (List D)} (ha : RzE u W ta fa) (hr : RzA u W tr fr) : RzA u W (tCons ta tr) (consF fa fr) := fun B G0 G H σ ε Q R h =>
  ha _ _ _ _ _ _ _ R (h.bnd.mono fun x ε1 G1 H1 e1 R1 h1 v rv => hr _ _ _ _ _ _ _ R1 (h1.bnd.mono fun xs ε2 G2 H2 e2 R2 h2 vs rvs =>
    h2.ret R2 (v :: vs) (by simp only [RepL]; exact ⟨v, vs, rfl, rv.mono e2, rvs⟩)))
def tupF (fa : Env → Out (List D)) : Env → Out D := fun ε => (fa ε).bnd fun xs ε1 => if xs.length ≤ 100000 then .ok (.tup xs) ε1 else .bad
theorem sz_of {n : Nat} (h : n ≤ 100000) : n ≤ sizeLine := Nat.le_trans h (by decide)
theorem sz_lt {n : Nat} (h : n < 100000) : n < sizeLine := Nat.lt_of_lt_of_le h (by decide)
theorem rz_tup {ta : TA} {fa : Env → Out (List D)} (ha : RzA u W ta fa) : RzE u W (tTup ta) (tupF fa) := fun B G0 G H σ ε Q R h =>
  ha _ _ _ _ _ _ _ R (h.bnd.mono fun xs ε1 G1 H1 e1 R1 h1 vs rvs => by
    by_cases hz : xs.length ≤ 100000
    · simp only [if_pos hz] at h1
      refine ⟨sz_of (by rw [← rvs.length]; exact hz), fun p hp => ?_⟩
      exact h1.ret' (R1.exn hp (.tup vs)) (R1.new hp (.tup vs)) _ (by simp only [Rep]; exact ⟨p, vs, rfl, upd_same, RepL.mono (R1.exn hp _) _ rvs⟩)
    · simp only [if_neg hz] at h1; exact h1.elim)
def lstM (fa : Env → Out (List D)) : Env → Out Sl := fun ε => (fa ε).bnd fun xs ε1 => if xs.length ≤ 100000 then .ok (.ow (.lst xs)) ε1 else .bad
theorem apart_new {B G0 G H : Hp} {σ : St} {ε : Env} (R : RepE u B G0 G H σ ε) {p : Addr} (hp : H p = none) : Apart σ ε p := fun i d h q => by
  obtain ⟨o, h1, h2⟩ := R.sl i _ h
  obtain ⟨l, rfl, _, _, w⟩ := h2
  rw [h1] at q
  cases q
  obtain ⟨ob, ho⟩ := Own.has w
  rw [hp] at ho; cases ho
theorem rzm_lst {ta : TA} {fa : Env → Out (List D)} (ha : RzA u W ta fa) : RzM u W (tLst ta) (lstM fa) := fun B G0 G H σ ε Q R h =>
  ha _ _ _ _ _ _ _ R (h.bnd.mono fun xs ε1 G1 H1 e1 R1 h1 vs rvs => by
    by_cases hz : xs.length ≤ 100000
    · simp only [if_pos hz] at h1
      refine ⟨sz_of (by rw [← rvs.length]; exact hz), fun p hp => ?_⟩
      exact h1.ret' (Ex.refl _) (R1.lay hp (.lst vs)) _ ⟨p, rfl, (R1.free hp).1, (R1.free hp).2.1, ⟨vs, upd_same, rvs⟩, apart_new R1 hp⟩
    · simp only [if_neg hz] at h1; exact h1.elim)
def Sl.get : Sl → Option D
  | .no => none
  | .xn _ => none
  | .fz d => some d
  | .ow d => some d
def frzF (f : Env → Out Sl) : Env → Out D := fun ε => (f ε).bnd fun s ε1 => Out.opt s.get ε1
theorem rz_frz {te : TE} {f : Env → Out Sl} (h : RzM u W te f) : RzE u W te (frzF f) := fun B G0 G H σ ε Q R q =>
  h _ _ _ _ _ _ _ R (q.bnd.mono fun s ε1 G1 H1 e1 R1 h1 v sv => by
    cases s with
    | no => exact sv.elim
    | xn x => exact sv.elim
    | fz d => exact Pst.ret (a := d) h1 R1 v sv
    | ow d =>
      obtain ⟨l, rfl, hg, hb, w, ap⟩ := sv
      obtain ⟨o, ho, hr⟩ := Own.rep w
      have e2 := (know R1.gh hg ho).1
      exact Pst.ret' (a := d) h1 e2 (R1.frz hg hb ho ap (w.nt ho)) _ (hr _ e2 upd_same))
def fzM (f : Env → Out D) : Env → Out Sl := fun ε => (f ε).bnd fun d ε1 => .ok (.fz d) ε1
theorem rzm_fz {te : TE} {f : Env → Out D} (h : RzE u W te f) : RzM u W te (fzM f) := fun B G0 G H σ ε Q R q =>
  h _ _ _ _ _ _ _ R (q.bnd.mono fun d ε1 G1 H1 e1 R1 h1 v rv => Pst.ret (a := Sl.fz d) h1 R1 v rv)
def cbF (fa : Env → Out (List D)) (f : List D → Option D) : Env → Out D := fun ε => (fa ε).bnd fun xs ε1 => Out.opt (f xs) ε1
theorem rz_cb {ta : TA} {fa : Env → Out (List D)} {r : List V → Hp → VK → Prop} {f : List D → Option D} (ha : RzA u W ta fa) (hr : RzC u r f) : RzE u W (tCB r ta) (cbF fa f) := fun B G0 G H σ ε Q R h =>
  ha _ _ _ _ _ _ _ R (h.bnd.mono fun xs ε1 G1 H1 e1 R1 h1 vs rvs => by
    obtain ⟨z, hz, h3⟩ := h1.opt
    exact hr vs xs z G1 H1 Q rvs hz R1.gh fun p G' H' eg eh egh gb rp => h3.ret' eg (R1.grow eg gb eh egh) p rp)

def asB : D → Option Bool
  | .bl b => some b
  | _ => none
theorem asB_rep {d : D} {b : Bool} {G : Hp} {v : V} (h : asB d = some b) (r : Rep u G d v) : v = .bl b := by
  cases d with
  | bl c => simp only [asB, Option.some.injEq] at h; subst h; simpa only [Rep] using r
  | _ => simp [asB] at h
def testF (f : Env → Out D) : Env → Out Bool := fun ε => (f ε).bnd fun d ε1 => Out.opt (asB d) ε1
theorem rt_test {te : TE} {f : Env → Out D} (h : RzE u W te f) : RzT u W (tTest te) (testF f) := fun B G0 G H σ ε Q R q =>
  h _ _ _ _ _ _ _ R (q.bnd.mono fun d ε1 G1 H1 e1 R1 h1 v rv => by
    obtain ⟨b, hb, h2⟩ := h1.opt
    exact ⟨b, asB_rep hb rv, h2.ret R1⟩)
theorem rt_B {te : TE} {f : Env → Out D} (h : RzE u W te f) : RzT u W (tB te) (testF f) := rt_test h
def andT (f g : Env → Out Bool) : Env → Out Bool := fun ε => (f ε).bnd fun b ε1 => if b = true then g ε1 else .ok false ε1
def orT (f g : Env → Out Bool) : Env → Out Bool := fun ε => (f ε).bnd fun b ε1 => if b = true then .ok true ε1 else g ε1
def notT (f : Env → Out Bool) : Env → Out Bool := fun ε => (f ε).bnd fun b ε1 => .ok (!b) ε1
theorem rt_and {t t' : TT} {f g : Env → Out Bool} (h : RzT u W t f) (h' : RzT u W t' g) : RzT u W (tAnd t t') (andT f g) := fun B G0 G H σ ε Q R q =>
  h _ _ _ _ _ _ _ R (q.bnd.mono fun b ε1 G1 H1 e1 R1 h1 => by
    cases b with
    | true => exact h' _ _ _ _ _ _ _ R1 h1
    | false => exact Pst.ret (W := W) (S := ST Q) (a := false) h1 R1)
theorem rt_or {t t' : TT} {f g : Env → Out Bool} (h : RzT u W t f) (h' : RzT u W t' g) : RzT u W (tOr t t') (orT f g) := fun B G0 G H σ ε Q R q =>
  h _ _ _ _ _ _ _ R (q.bnd.mono fun b ε1 G1 H1 e1 R1 h1 => by
    cases b with
    | true => exact Pst.ret (W := W) (S := ST Q) (a := true) h1 R1
    | false => exact h' _ _ _ _ _ _ _ R1 h1)
theorem rt_not {t : TT} {f : Env → Out Bool} (h : RzT u W t f) : RzT u W (tNot t) (notT f) := fun B G0 G H σ ε Q R q =>
  h _ _ _ _ _ _ _ R (q.bnd.mono fun b ε1 G1 H1 e1 R1 h1 => Pst.ret (a := !b) h1 R1)
def andV (f g : Env → Out D) : Env → Out D := fun ε => (f ε).bnd fun d ε1 => match asB d with
  | some true => g ε1
  | some false => .ok (.bl false) ε1
  | none => .bad
def orV (f g : Env → Out D) : Env → Out D := fun ε => (f ε).bnd fun d ε1 => match asB d with
  | some true => .ok (.bl true) ε1
  | some false => g ε1
  | none => .bad
def notV (f : Env → Out D) : Env → Out D := fun ε => (f ε).bnd fun d ε1 => Out.opt ((asB d).map fun b => .bl (!b)) ε1
theorem rz_and {t t' : TE} {f g : Env → Out D} (h : RzE u W t f) (h' : RzE u W t' g) : RzE u W (tAndV t t') (andV f g) := fun B G0 G H σ ε Q R q =>
  h _ _ _ _ _ _ _ R (q.bnd.mono fun d ε1 G1 H1 e1 R1 h1 v rv => by
    cases hb : asB d with
    | none => simp only [hb] at h1; exact h1.elim
    | some b =>
      refine ⟨b, asB_rep hb rv, ?_⟩
      cases b with
      | true => simp only [hb] at h1; exact h' _ _ _ _ _ _ _ R1 h1
      | false => simp only [hb] at h1; exact h1.ret R1 _ (by simp only [Rep]))
theorem rz_not {t : TE} {f : Env → Out D} (h : RzE u W t f) : RzE u W (tNotV t) (notV f) := fun B G0 G H σ ε Q R q =>
  h _ _ _ _ _ _ _ R (q.bnd.mono fun d ε1 G1 H1 e1 R1 h1 v rv => by
    obtain ⟨z, hz, h2⟩ := h1.opt
    cases hb : asB d with
    | none => rw [hb] at hz; cases hz
    | some b =>
      rw [hb] at hz; cases hz
      exact ⟨b, asB_rep hb rv, h2.ret R1 _ (by simp only [Rep])⟩)
def ifE (c : Env → Out Bool) (f g : Env → Out D) : Env → Out D := fun ε => (c ε).bnd fun b ε1 => if b = true then f ε1 else g ε1
theorem rz_if {t : TT} {ta tb : TE} {c : Env → Out Bool} {f g : Env → Out D} (h : RzT u W t c) (ha : RzE u W ta f) (hb : RzE u W tb g) : RzE u W (tIf t ta tb) (ifE c f g) := fun B G0 G H σ ε Q R q =>
  h _ _ _ _ _ _ _ R (q.bnd.mono fun b ε1 G1 H1 e1 R1 h1 => by
    cases b with
    | true => exact ha _ _ _ _ _ _ _ R1 h1
    | false => exact hb _ _ _ _ _ _ _ R1 h1)
def chainF (fa fb fc : Env → Out D) (f g : D → D → Option D) : Env → Out D := fun ε => (fa ε).bnd fun x ε1 => (fb ε1).bnd fun y ε2 => match (f x y).bind asB with
  | some true => (fc ε2).bnd fun z ε3 => Out.opt (g y z) ε3
  | some false => .ok (.bl false) ε2
  | none => .bad
theorem rz_chain {ta tb tc : TE} {fa fb fc : Env → Out D} {r r' : R2} {f g : D → D → Option D} (ha : RzE u W ta fa) (hb : RzE u W tb fb) (hc : RzE u W tc fc) (hr : RzR u r f) (hr' : RzR u r' g) :
    RzE u W (tChain r r' ta tb tc) (chainF fa fb fc f g) := fun B G0 G H σ ε Q R h =>
  ha _ _ _ _ _ _ _ R (h.bnd.mono fun x ε1 G1 H1 e1 R1 h1 v rv => hb _ _ _ _ _ _ _ R1 (h1.bnd.mono fun y ε2 G2 H2 e2 R2 h2 w rw => by
    cases hf : f x y with
    | none => simp only [hf, Option.bind_none] at h2; exact h2.elim
    | some d =>
      simp only [hf, Option.bind_some] at h2
      cases hb : asB d with
      | none => simp only [hb] at h2; exact h2.elim
      | some b =>
        refine hr v w x y d G2 H2 _ (rv.mono e2) rw hf R2.gh fun p G' H' eg eh egh gb rp => ⟨b, asB_rep hb rp, ?_⟩
        have R3 := R2.grow eg gb eh egh
        cases b with
        | true =>
          simp only [hb] at h2
          exact hc _ _ _ _ _ _ _ R3 ((h2.up eg).bnd.mono fun z ε3 G3 H3 e3 R4 h3 q rq => by
            obtain ⟨zz, hz, h4⟩ := h3.opt
            exact hr' w q y z zz G3 H3 Q ((rw.mono eg).mono e3) rq hz R4.gh fun p' G'' H'' eg' eh' egh' gb' rp' => h4.ret' eg' (R4.grow eg' gb' eh' egh') p' rp')
        | false =>
          simp only [hb] at h2
          exact h2.ret' eg R3 _ (by simp only [Rep])))
end
end ML
end
section
set_option Elab.async false
set_option linter.all false
set_option maxRecDepth 100000
set_option maxHeartbeats 2000000
set_option autoImplicit false
namespace ML
open PySem L2

inductive SO where
  | nx (ε : Env) | rt (d : D) (ε : Env) | bk (ε : Env) | ct (ε : Env) | ex (x : Xn) (ε : Env) | bad
def Out.toS {α : Type} (o : Out α) (k : α → Env → SO) : SO := match o with
  | .ok a ε => k a ε
  | .ex x ε => .ex x ε
  | .bad => .bad
def Kp (b : List Nat) (σ σ' : L2.St) : Prop := ∀ k, k ∈ b → σ'[k]? = σ[k]?
theorem Kp.refl {b : List Nat} {σ : L2.St} : Kp b σ σ := fun _ _ => rfl
theorem Kp.trans {b : List Nat} {σ σ1 σ2 : L2.St} (h : Kp b σ σ1) (h' : Kp b σ1 σ2) : Kp b σ σ2 := fun k e => (h' k e).trans (h k e)
def PstS (u : Uv) (W : WX) (b : List Nat) (τ : L2.St) (B G0 G : Hp) (o : SO) (N : Ends) : Prop := match o with
  | .nx ε => ∀ σ' G' H', Ex G G' → RepE u B G0 G' H' σ' ε → Kp b τ σ' → N.nx σ' H'
  | .rt d ε => ∀ σ' v G' H', Ex G G' → RepE u B G0 G' H' σ' ε → Kp b τ σ' → Rep u G' d v → N.rt v H'
  | .bk ε => ∀ σ' G' H', Ex G G' → RepE u B G0 G' H' σ' ε → Kp b τ σ' → N.bk σ' H'
  | .ct ε => ∀ σ' G' H', Ex G G' → RepE u B G0 G' H' σ' ε → Kp b τ σ' → N.ct σ' H'
  | .ex x ε => ∀ c dd σ' G' H', Ex G G' → RepE u B G0 G' H' σ' ε → Kp b τ σ' → RepX u G' H' x c dd → W c dd σ' H'
  | .bad => False
def RzS (u : Uv) (W : WX) (b : List Nat) (ts : TS) (F : Env → SO) : Prop := ∀ B G0 G H σ ε N, RepE u B G0 G H σ ε → PstS u W b σ B G0 G (F ε) N → ts N σ H
section
variable {α β : Type} {u : Uv} {W : WX} {b : List Nat} {B G0 G G' H H' : Hp} {σ τ τ' : L2.St} {ε : Env}
theorem PstS.up {o : SO} {N : Ends} (h : PstS u W b τ B G0 G o N) (e : Ex G G') : PstS u W b τ B G0 G' o N := by
  cases o with
  | nx ε => exact fun σ G'' H' e' R => h σ G'' H' (e.trans e') R
  | rt d ε => exact fun σ v G'' H' e' R => h σ v G'' H' (e.trans e') R
  | bk ε => exact fun σ G'' H' e' R => h σ G'' H' (e.trans e') R
  | ct ε => exact fun σ G'' H' e' R => h σ G'' H' (e.trans e') R
  | ex x ε => exact fun c dd σ G'' H' e' R => h c dd σ G'' H' (e.trans e') R
  | bad => exact h
theorem PstS.on {o : SO} {N : Ends} (h : PstS u W b τ B G0 G o N) (k : Kp b τ τ') : PstS u W b τ' B G0 G o N := by
  cases o with
  | nx ε => exact fun σ G'' H' e' R q => h σ G'' H' e' R (k.trans q)
  | rt d ε => exact fun σ v G'' H' e' R q => h σ v G'' H' e' R (k.trans q)
  | bk ε => exact fun σ G'' H' e' R q => h σ G'' H' e' R (k.trans q)
  | ct ε => exact fun σ G'' H' e' R q => h σ G'' H' e' R (k.trans q)
  | ex x ε => exact fun c dd σ G'' H' e' R q => h c dd σ G'' H' e' R (k.trans q)
  | bad => exact h
theorem PstS.bnd {o : Out α} {k : α → Env → SO} {N : Ends} (h : PstS u W b τ B G0 G (o.toS k) N) (kp : Kp b τ σ := by exact Kp.refl) : Pst u W B G0 σ G o (fun a ε' G' _ => PstS u W b τ B G0 G' (k a ε') N) := by
  cases o with
  | ok a ε => exact fun G' H' e _ => PstS.up (G := G) h e
  | ex x ε => exact fun c dd G' H' e R rx => h c dd σ G' H' e R kp rx
  | bad => exact h
theorem PstS.next {N : Ends} (h : PstS u W b τ B G0 G (.nx ε) N) (R : RepE u B G0 G H σ ε) (k : Kp b τ σ) : N.nx σ H := h σ G H (Ex.refl _) R k
def nxF : Env → SO := fun ε => .nx ε
theorem rs_next : RzS u W b tNext nxF := fun B G0 G H σ ε N R h => h.next R .refl
def seqF (F F' : Env → SO) : Env → SO := fun ε => match F ε with
  | .nx ε' => F' ε'
  | o => o
theorem rs_seq {t t' : TS} {F F' : Env → SO} (h : RzS u W b t F) (h' : RzS u W b t' F') : RzS u W b (tSeq t t') (seqF F F') := fun B G0 G H σ ε N R q => by
  refine h _ _ _ _ _ _ _ R ?_
  unfold seqF at q
  cases e : F ε with
  | nx ε' => rw [e] at q; exact fun σ' G' H' e' R' k => h' _ _ _ _ _ _ _ R' ((PstS.up (G := G) q e').on k)
  | rt d ε' => rw [e] at q; exact q
  | bk ε' => rw [e] at q; exact q
  | ct ε' => rw [e] at q; exact q
  | ex x ε' => rw [e] at q; exact q
  | bad => rw [e] at q; exact q
def ifS (c : Env → Out Bool) (F F' : Env → SO) : Env → SO := fun ε => (c ε).toS fun b ε1 => if b = true then F ε1 else F' ε1
theorem rs_if {t : TT} {ta tb : TS} {c : Env → Out Bool} {F F' : Env → SO} (h : RzT u W t c) (ha : RzS u W b ta F) (hb : RzS u W b tb F') : RzS u W b (tIfS t ta tb) (ifS c F F') := fun B G0 G H σ ε N R q =>
  h _ _ _ _ _ _ _ R (q.bnd.mono fun b ε1 G1 H1 e1 R1 h1 => by
    cases b with
    | true => exact ha _ _ _ _ _ _ _ R1 h1
    | false => exact hb _ _ _ _ _ _ _ R1 h1)
def retF (f : Env → Out D) : Env → SO := fun ε => (f ε).toS fun d ε1 => .rt d ε1
theorem rs_ret {te : TE} {f : Env → Out D} (h : RzE u W te f) : RzS u W b (tRet te) (retF f) := fun B G0 G H σ ε N R q =>
  h _ _ _ _ _ _ _ R (q.bnd.mono fun d ε1 G1 H1 e1 R1 h1 v rv => PstS.up (G := G1) h1 (Ex.refl _) σ v G1 H1 (Ex.refl _) R1 .refl rv)
def retN : Env → SO := fun ε => .rt .non ε
def dropF (f : Env → Out D) : Env → SO := fun ε => (f ε).toS fun _ ε1 => .nx ε1
theorem rs_drop {te : TE} {f : Env → Out D} (h : RzE u W te f) : RzS u W b (tDrop te) (dropF f) := fun B G0 G H σ ε N R q =>
  h _ _ _ _ _ _ _ R (q.bnd.mono fun d ε1 G1 H1 e1 R1 h1 v rv => h1.next R1 .refl)
def neverF : Env → SO := fun _ => .bad
theorem rs_never : RzS u W b tNever neverF := fun B G0 G H σ ε N R q => q.elim

def Only (js : List Nat) (σ σ' : L2.St) : Prop := σ'.length = σ.length ∧ ∀ i, i ∉ js → σ'[i]? = σ[i]?
theorem Only.kp {js : List Nat} {σ σ' : L2.St} {b : List Nat} (o : Only js σ σ') (h : ∀ k, k ∈ b → k ∉ js) : Kp b σ σ' := fun k e => o.2 k (h k e)
def WG (u : Uv) (js : List Nat) (B G0 G H : Hp) (σ : L2.St) (Q : L2.St → Hp → Prop) : Option Env → Prop
  | some ε' => ∀ σ', RepE u B G0 G H σ' ε' → Only js σ σ' → Q σ' H
  | none => False
def RzG (u : Uv) (js : List Nat) (g : TG) (gf : D → Env → Option Env) : Prop := ∀ B G0 G H σ ε d v Q, RepE u B G0 G H σ ε → Rep u G d v → WG u js B G0 G H σ Q (gf d ε) → g v σ H Q
def RzGs (u : Uv) (js : List Nat) (g : TGs) (gf : List D → Env → Option Env) : Prop := ∀ B G0 G H σ ε ds vs Q, RepE u B G0 G H σ ε → RepL u G ds vs → WG u js B G0 G H σ Q (gf ds ε) → g vs σ H Q
def gnF (i : Nat) : D → Env → Option Env := fun d ε => some (ε.set i (.fz d))
theorem only_set {σ : L2.St} {i : Nat} {o : Option V} : Only [i] σ (σ.set i o) := ⟨by simp, fun j hj => by
  have : j ≠ i := fun e => hj (by simp [e])
  rw [List.getElem?_set_ne (Ne.symm this)]⟩
theorem rg_name (i : Nat) : RzG u [i] (gName i) (gnF i) := fun B G0 G H σ ε d v Q R r h => h _ (R.setF i r) only_set
def gnilF : List D → Env → Option Env
  | [], ε => some ε
  | _, _ => none
def gconsF (gf : D → Env → Option Env) (gs : List D → Env → Option Env) : List D → Env → Option Env
  | d :: ds, ε => (gf d ε).bind fun ε1 => gs ds ε1
  | [], _ => none
theorem rgs_nil : RzGs u [] gNil gnilF := fun B G0 G H σ ε ds vs Q R r h => by
  cases ds with
  | nil => simp only [RepL] at r; exact ⟨r, h _ R ⟨rfl, fun _ _ => rfl⟩⟩
  | cons d ds => exact h.elim
theorem rgs_cons {js ks : List Nat} {g : TG} {gs : TGs} {gf : D → Env → Option Env} {gfs : List D → Env → Option Env} (h1 : RzG u js g gf) (h2 : RzGs u ks gs gfs) : RzGs u (js ++ ks) (gCons g gs) (gconsF gf gfs) := fun B G0 G H σ ε ds vs Q R r h => by
  cases ds with
  | nil => exact h.elim
  | cons d ds =>
    simp only [RepL] at r
    obtain ⟨v, rr, rfl, r1, r2⟩ := r
    refine ⟨v, rr, rfl, h1 _ _ _ _ _ _ _ _ _ R r1 ?_⟩
    unfold gconsF at h
    cases e : gf d ε with
    | none => simp only [e, Option.bind_none] at h; exact h.elim
    | some ε1 =>
      simp only [e, Option.bind_some] at h
      intro σ1 R1 o1
      refine h2 _ _ _ _ _ _ _ _ _ R1 r2 ?_
      cases e2 : gfs ds ε1 with
      | none => rw [e2] at h; exact h.elim
      | some ε2 =>
        rw [e2] at h
        exact fun σ2 R2 o2 => h σ2 R2 ⟨o2.1.trans o1.1, fun i hi => (o2.2 i fun q => hi (List.mem_append_right _ q)).trans (o1.2 i fun q => hi (List.mem_append_left _ q))⟩
def gtupF (n : Nat) (gs : List D → Env → Option Env) : D → Env → Option Env
  | .tup ds, ε => if ds.length = n then gs ds ε else none
  | _, _ => none
theorem rg_tup {js : List Nat} {n : Nat} {gs : TGs} {gfs : List D → Env → Option Env} (h : RzGs u js gs gfs) : RzG u js (gTup u.K n gs) (gtupF n gfs) := fun B G0 G H σ ε d v Q R r q => by
  cases d with
  | tup ds =>
    simp only [Rep] at r
    obtain ⟨a, vs, rfl, s, rl⟩ := r
    by_cases hn : ds.length = n
    · simp only [gtupF, if_pos hn] at q
      exact ⟨a, vs, rfl, ex_t R.gh s, by rw [← rl.length]; exact hn, h _ _ _ _ _ _ _ _ _ R rl q⟩
    · simp only [gtupF, if_neg hn] at q; exact q.elim
  | _ => exact q.elim
def asgF (f : Env → Out D) (gf : D → Env → Option Env) : Env → SO := fun ε => (f ε).toS fun d ε1 => match gf d ε1 with
  | some ε2 => .nx ε2
  | none => .bad
theorem rs_asg {js : List Nat} {te : TE} {g : TG} {f : Env → Out D} {gf : D → Env → Option Env} (h : RzE u W te f) (hg : RzG u js g gf) (hk : ∀ k, k ∈ b → k ∉ js := by decide) : RzS u W b (tAsg te g) (asgF f gf) := fun B G0 G H σ ε N R q =>
  h _ _ _ _ _ _ _ R (q.bnd.mono fun d ε1 G1 H1 e1 R1 h1 v rv => hg _ _ _ _ _ _ _ _ _ R1 rv (by
    cases e : gf d ε1 with
    | none => simp only [e] at h1; exact h1.elim
    | some ε2 => simp only [e] at h1; exact fun σ' R' o => h1.next R' (o.kp hk)))
def setM (f : Env → Out Sl) (i : Nat) : Env → SO := fun ε => (f ε).toS fun s ε1 => .nx (ε1.set i s)
theorem kp_set {i : Nat} {o : Option V} (hk : i ∉ b) : Kp b σ (σ.set i o) := fun k e => by
  have : i ≠ k := fun q => hk (by rw [q]; exact e)
  rw [List.getElem?_set_ne this]
theorem rs_setM {te : TE} {f : Env → Out Sl} {i : Nat} (h : RzM u W te f) (hk : i ∉ b := by decide) : RzS u W b (tAsg te (gName i)) (setM f i) := fun B G0 G H σ ε N R q =>
  h _ _ _ _ _ _ _ R (q.bnd.mono fun s ε1 G1 H1 e1 R1 h1 v sv => by
    cases s with
    | no => exact sv.elim
    | xn x => exact sv.elim
    | fz d => exact h1.next (R1.setF i sv) (kp_set hk)
    | ow d =>
      obtain ⟨l, rfl, hg, hb, w, ap⟩ := sv
      exact h1.next (R1.setO i hg hb w ap) (kp_set hk))
theorem RepE.less {B' : Hp} (R : RepE u B' G0 G H σ ε) (e : Ex B B') : RepE u B G0 G H σ ε :=
  ⟨R.len, R.g0, R.gb.less e, R.gh, e.trans R.bh, fun i s h => by
    obtain ⟨o, h1, h2⟩ := R.sl i s h
    refine ⟨o, h1, ?_⟩
    cases s with
    | no => trivial
    | xn x => exact h2
    | fz d => exact h2
    | ow d => obtain ⟨l, a, b, c, w⟩ := h2; exact ⟨l, a, b, e.free c, w⟩, R.dj, R.tb.base fun _ _ z => e.free z⟩
theorem Pst.less {B' : Hp} {o : Out α} {S : α → Env → Hp → Hp → Prop} (h : Pst u W B G0 σ G o S) (e : Ex B B') : Pst u W B' G0 σ G o S := by
  cases o with
  | ok a ε => exact fun G' H' eg R => h G' H' eg (R.less e)
  | ex x ε => exact fun c dd G' H' eg R => h c dd G' H' eg (R.less e)
  | bad => exact h
theorem PstS.less {B' : Hp} {o : SO} {N : Ends} (h : PstS u W b τ B G0 G o N) (e : Ex B B') : PstS u W b τ B' G0 G o N := by
  cases o with
  | nx ε => exact fun σ G'' H' e' R => h σ G'' H' e' (R.less e)
  | rt d ε => exact fun σ v G'' H' e' R => h σ v G'' H' e' (R.less e)
  | bk ε => exact fun σ G'' H' e' R => h σ G'' H' e' (R.less e)
  | ct ε => exact fun σ G'' H' e' R => h σ G'' H' e' (R.less e)
  | ex x ε => exact fun c dd σ G'' H' e' R => h c dd σ G'' H' e' (R.less e)
  | bad => exact h
theorem RepE.aside {l : Addr} {o : HO} (R : RepE u B G0 G H σ ε) (hg : G l = none) (h : H l = some o) (ap : Apart σ ε l) (nt : Nt l o := by constructor <;> intro _ z <;> cases z) : RepE u (upd B l o) G0 G H σ ε := by
  refine ⟨R.len, R.g0, fun a x q => ?_, R.gh, fun a x q => ?_, fun i s hs => ?_, R.dj, R.tb.base fun p hp z => by rw [upd_ne (R.tb.ne h nt p hp)]; exact z⟩
  · by_cases ha : a = l
    · subst ha; exact .inl (by rw [hg, R.g0.free hg])
    · rw [upd_ne ha] at q; exact R.gb a x q
  · by_cases ha : a = l
    · subst ha; rw [upd_same] at q; cases q; exact h
    · rw [upd_ne ha] at q; exact R.bh a x q
  · obtain ⟨v, h1, h2⟩ := R.sl i s hs
    refine ⟨v, h1, ?_⟩
    cases s with
    | no => trivial
    | xn x => exact h2
    | fz d => exact h2
    | ow d =>
      obtain ⟨m, a, b, c, w⟩ := h2
      have hm : m ≠ l := fun q => by subst q; exact ap i d hs (by rw [h1, a])
      exact ⟨m, a, b, by rw [upd_ne hm]; exact c, w⟩
theorem RepE.back {l : Addr} {o : HO} (R : RepE u (upd B l o) G0 G H σ ε) (hb : B l = none) (h0 : G0 l = none) (ht : ∀ vs, o ≠ .tup vs) : G l = none ∧ H l = some o ∧ Apart σ ε l ∧ RepE u B G0 G H σ ε := by
  refine ⟨(R.gb.at_ upd_same ht).trans h0, R.bh l o upd_same, fun i d hi q => ?_, R.less (Ex.upd hb)⟩
  obtain ⟨v, h1, h2⟩ := R.sl i _ hi
  obtain ⟨m, rfl, _, c, _⟩ := h2
  rw [h1] at q
  cases q
  rw [upd_same] at c; cases c
theorem Own.at_ {u : Uv} {G H H' : Hp} {l : Addr} {d : D} {o : HO} (h : Own u G H l d) (e : H l = some o) (e' : H' l = some o) : Own u G H' l d := h.mono (Ex.refl _) fun x q => by rw [e] at q; cases q; exact e'
theorem apart_set {ε : Env} {l : Addr} {i : Nat} {d : D} {v : V} (ap : Apart σ ε l) : Apart (σ.set i (some v)) (ε.set i (.fz d)) l := fun j d' h q => by
  by_cases hj : j = i
  · subst hj
    by_cases hl : j < ε.length
    · rw [List.getElem?_set_self hl] at h; cases h
    · rw [List.getElem?_eq_none (by simpa using hl)] at h; cases h
  · rw [List.getElem?_set_ne (Ne.symm hj)] at h q
    exact ap j d' h q
theorem apart_setO {ε : Env} {l m : Addr} {i : Nat} {d : D} (ap : Apart σ ε l) (hm : m ≠ l) : Apart (σ.set i (some (.ref m))) (ε.set i (.ow d)) l := fun j d' h q => by
  by_cases hj : j = i
  · subst hj
    by_cases hl : j < σ.length
    · rw [List.getElem?_set_self hl] at q; cases q; exact hm rfl
    · rw [List.getElem?_eq_none (by simpa using hl)] at q; cases q
  · rw [List.getElem?_set_ne (Ne.symm hj)] at h q
    exact ap j d' h q
def parF (i j : Nat) (f g : Env → Out Sl) : Env → SO := fun ε => (f ε).toS fun s ε1 => (g ε1).toS fun t ε2 => .nx ((ε2.set i s).set j t)
theorem rs_par {i j : Nat} {ta tb : TE} {f g : Env → Out Sl} (ha : RzM u W ta f) (hb : RzM u W tb g) (hk : i ∉ b := by decide) (hk' : j ∉ b := by decide) : RzS u W b (tPar i j (tCons ta (tCons tb tNil))) (parF i j f g) := fun B G0 G H σ ε N R q =>
  ha _ _ _ _ _ _ _ R (q.bnd.mono fun s ε1 G1 H1 e1 R1 h1 v sv => by
    cases s with
    | no => exact sv.elim
    | xn x => exact sv.elim
    | fz d =>
      refine hb _ _ _ _ _ _ _ R1 (h1.bnd.mono fun t ε2 G2 H2 e2 R2 h2 w tw => ⟨v, w, rfl, ?_⟩)
      have R3 := R2.setF i (sv.mono e2)
      cases t with
      | no => exact tw.elim
      | xn x => exact tw.elim
      | fz d' => exact h2.next (R3.setF j tw) ((kp_set hk).trans (kp_set hk'))
      | ow d' =>
        obtain ⟨l, rfl, hg, hb', w', ap⟩ := tw
        exact h2.next (R3.setO j hg hb' w' (apart_set ap)) ((kp_set hk).trans (kp_set hk'))
    | ow d =>
      obtain ⟨l, rfl, hg, hb', w', ap⟩ := sv
      obtain ⟨o, ho⟩ := Own.has w'
      have R1' := R1.aside hg ho ap (w'.nt ho)
      refine hb _ _ _ _ _ _ _ R1' ((h1.bnd.less (Ex.upd hb')).mono fun t ε2 G2 H2 e2 R2 h2 w tw => ⟨_, w, rfl, ?_⟩)
      obtain ⟨b1, b2, b3, b4⟩ := R2.back hb' (R1.g0.free hg) (w'.ntup ho)
      have w2 : Own u G2 H2 l d := w'.mono e2 fun x q => by rw [ho] at q; cases q; exact b2
      have R3 := b4.setO i b1 hb' w2 b3
      cases t with
      | no => exact tw.elim
      | xn x => exact tw.elim
      | fz d' => exact h2.next (R3.setF j tw) ((kp_set hk).trans (kp_set hk'))
      | ow d' =>
        obtain ⟨m, rfl, hg3, hb3, w3, ap3⟩ := tw
        have hm : l ≠ m := fun q => by subst q; rw [upd_same] at hb3; cases hb3
        have hbm : B m = none := by rw [upd_ne (Ne.symm hm)] at hb3; exact hb3
        exact h2.next (R3.setO j hg3 hbm w3 (apart_setO ap3 hm)) ((kp_set hk).trans (kp_set hk')))
end
end ML
end
section
set_option Elab.async false
set_option linter.all false
set_option maxRecDepth 100000
set_option maxHeartbeats 2000000
set_option autoImplicit false
namespace ML
open PySem L2

structure Ext (G H G' H' : Hp) : Prop where
  g : Ex G G'
  h : Ex H H'
  gh : Ex G' H'
  nw : Nw H G G'
theorem Ext.refl {G H : Hp} (e : Ex G H) : Ext G H G H := ⟨Ex.refl _, Ex.refl _, e, Nw.refl⟩
theorem Ext.new {G H : Hp} (e : Ex G H) {p : Addr} (hp : H p = none) (o : HO) : Ext G H (upd G p o) (upd H p o) :=
  ⟨Ex.upd (e.free hp), Ex.upd hp, e.both, Nw.of fun _ _ h => upd_ne (ne_of_none h hp)⟩
structure WalkD (u : Uv) (J : It) (ds : List D) (G0 : Hp) : Prop where
  go : ∀ i G H, i < ds.length → Ex G0 G → Ex G H → J.go i H
  stop : ∀ G H, Ex G0 G → Ex G H → J.stop ds.length H
  yld : ∀ i G H x H' d, ds[i]? = some d → Ex G0 G → Ex G H → J.yld i H x H' → ∃ G', Ext G H G' H' ∧ Rep u G' d x
def SI (u : Uv) (R : It → Hp → Prop) : List D → Env → Hp → Hp → Prop := fun ds _ G H => ∀ J, WalkD u J ds G → R J H
def RzI (u : Uv) (W : WX) (wi : TI) (f : Env → Out (List D)) : Prop := ∀ B G0 G H σ ε Q, RepE u B G0 G H σ ε → Pst u W B G0 σ G (f ε) (SI u Q) → wi σ H Q
section
variable {α β : Type} {u : Uv} {W : WX} {b : List Nat} {B G0 G G' H H' : Hp} {σ : L2.St} {ε : Env}
theorem RepE.ext (R : RepE u B G0 G H σ ε) (e : Ext G H G' H') : RepE u B G0 G' H' σ ε := R.grow e.g e.nw e.h e.gh

def forF (gf : D → Env → Option Env) (F : Env → SO) : List D → Env → SO
  | [], ε => .nx ε
  | d :: ds, ε => match gf d ε with
    | none => .bad
    | some ε1 => match F ε1 with
      | .nx ε2 => forF gf F ds ε2
      | .ct ε2 => forF gf F ds ε2
      | .bk ε2 => .nx ε2
      | .rt r ε2 => .rt r ε2
      | .ex x ε2 => .ex x ε2
      | .bad => .bad
def forS (fi : Env → Out (List D)) (gf : D → Env → Option Env) (F : Env → SO) : Env → SO := fun ε => (fi ε).toS fun ds ε1 => forF gf F ds ε1
theorem rs_for {js : List Nat} {wi : TI} {g : TG} {tb : TS} {fi : Env → Out (List D)} {gf : D → Env → Option Env} {F : Env → SO} (hi : RzI u W wi fi) (hg : RzG u js g gf) (hb : RzS u W b tb F) (hk : ∀ k, k ∈ b → k ∉ js := by decide) :
    RzS u W b (tFor wi g tb) (forS fi gf F) := fun B G0 G H σ ε N R q =>
  hi _ _ _ _ _ _ _ R (q.bnd.mono fun ds ε1 G1 H1 e1 R1 h1 J wJ => by
    refine ⟨fun i m σ2 H => m = ds.length - i ∧ i ≤ ds.length ∧ ∃ ε G, Ex G1 G ∧ RepE u B G0 G H σ2 ε ∧ Kp b σ σ2 ∧ PstS u W b σ B G0 G (forF gf F (ds.drop i) ε) N, ⟨ds.length, by simp, Nat.zero_le _, ε1, G1, Ex.refl _, R1, .refl, h1⟩, ?_⟩
    rintro i m σ2 H2 ⟨rfl, hi, ε2, G2, e2, R2, k2, h2⟩
    by_cases hlt : i < ds.length
    · refine .inr ⟨wJ.go i G2 H2 hlt e2 R2.gh, fun σ' H' => ∃ ε' G', Ex G1 G' ∧ RepE u B G0 G' H' σ' ε' ∧ Kp b σ σ' ∧ PstS u W b σ B G0 G' (forF gf F (ds.drop (i + 1)) ε') N, fun σ' H' ⟨ε', G', a, b, k, c⟩ => ⟨ds.length - (i + 1), by omega, rfl, hlt, ε', G', a, b, k, c⟩, fun x H3 hy => ?_⟩
      obtain ⟨G3, ext, rx⟩ := wJ.yld i G2 H2 x H3 ds[i] (by simp [hlt]) e2 R2.gh hy
      rw [List.drop_eq_getElem_cons hlt] at h2
      unfold forF at h2
      refine hg _ _ _ _ _ _ _ _ _ (R2.ext ext) rx ?_
      cases eg : gf ds[i] ε2 with
      | none => rw [eg] at h2; exact h2.elim
      | some ε3 =>
        rw [eg] at h2
        refine fun σ4 R4 o4 => hb _ _ _ _ _ _ _ R4 ?_
        have k4 : Kp b σ σ4 := k2.trans (o4.kp hk)
        have h3 := h2.up ext.g
        simp only at h3
        cases ef : F ε3 with
        | nx ε5 => rw [ef] at h3; exact fun σ5 G5 H5 e5 R5 k5 => ⟨ε5, G5, (e2.trans ext.g).trans e5, R5, k4.trans k5, PstS.up (G := G3) h3 e5⟩
        | ct ε5 => rw [ef] at h3; exact fun σ5 G5 H5 e5 R5 k5 => ⟨ε5, G5, (e2.trans ext.g).trans e5, R5, k4.trans k5, PstS.up (G := G3) h3 e5⟩
        | bk ε5 => rw [ef] at h3; exact PstS.on (W := W) (τ := σ) (o := .bk ε5) (N := { N with bk := N.nx }) h3 k4
        | rt r ε5 => rw [ef] at h3; exact PstS.on (τ := σ) (o := .rt r ε5) (N := N) h3 k4
        | ex x ε5 => rw [ef] at h3; exact PstS.on (τ := σ) (o := .ex x ε5) (N := N) h3 k4
        | bad => rw [ef] at h3; exact h3
    · have e : i = ds.length := by omega
      subst e
      rw [List.drop_length] at h2
      exact .inl ⟨wJ.stop G2 H2 e2 R2.gh, PstS.next (ε := ε2) h2 R2 k2⟩)
def wipeE (ε : Env) : List Nat → Env
  | [] => ε
  | v :: vs => (wipeE ε vs).set v .no
theorem wipe_get {σ : St} {i : Nat} : ∀ {vs : List Nat}, i ∉ vs → (wipe σ vs)[i]? = σ[i]?
  | [], _ => rfl
  | v :: vs, h => by
    have h1 : i ≠ v := fun e => h (by simp [e])
    unfold wipe
    rw [List.getElem?_set_ne (Ne.symm h1), wipe_get fun q => h (List.mem_cons_of_mem _ q)]
theorem wipeE_get {ε : Env} {i : Nat} : ∀ {vs : List Nat}, i ∉ vs → (wipeE ε vs)[i]? = ε[i]?
  | [], _ => rfl
  | v :: vs, h => by
    have h1 : i ≠ v := fun e => h (by simp [e])
    unfold wipeE
    rw [List.getElem?_set_ne (Ne.symm h1), wipeE_get fun q => h (List.mem_cons_of_mem _ q)]
theorem wipeE_length (ε : Env) : ∀ vs : List Nat, (wipeE ε vs).length = ε.length
  | [] => rfl
  | v :: vs => by unfold wipeE; rw [List.length_set, wipeE_length ε vs]
theorem wipeE_in {ε : Env} {i : Nat} : ∀ {vs : List Nat}, i ∈ vs → ∀ s, (wipeE ε vs)[i]? = some s → s = .no
  | v :: vs, h, s, e => by
    unfold wipeE at e
    by_cases hi : i = v
    · subst hi
      by_cases hl : i < (wipeE ε vs).length
      · rw [List.getElem?_set_self hl] at e; cases e; rfl
      · rw [List.getElem?_eq_none (by simpa using hl)] at e; cases e
    · rw [List.getElem?_set_ne (Ne.symm hi)] at e
      exact wipeE_in (by cases h with | head => exact absurd rfl hi | tail _ q => exact q) s e
theorem RepE.other {σ' : St} (vs : List Nat) (R : RepE u B G0 G H σ ε) (hl : σ'.length = σ.length) (h : ∀ i, i ∉ vs → σ'[i]? = σ[i]?) : RepE u B G0 G H σ' (wipeE ε vs) := by
  refine ⟨by rw [wipeE_length, hl, R.len], R.g0, R.gb, R.gh, R.bh, fun i s hs => ?_, fun i j a d d' hij h1 h2 h3 => ?_, R.tb⟩
  · by_cases hi : i ∈ vs
    · have : s = .no := wipeE_in hi s hs
      subst this
      have hlt : i < σ'.length := by
        have := (List.getElem?_eq_some_iff.mp hs).1
        rw [wipeE_length, ← R.len, ← hl] at this
        exact this
      exact ⟨σ'[i], by simp [hlt], trivial⟩
    · rw [wipeE_get hi] at hs
      rw [h i hi]
      exact R.sl i s hs
  · have hi : i ∉ vs := fun q => by have := wipeE_in q _ h1; cases this
    have hj : j ∉ vs := fun q => by have := wipeE_in q _ h2; cases this
    rw [wipeE_get hi] at h1
    rw [wipeE_get hj] at h2
    rw [h i hi] at h3
    rw [h j hj]
    exact R.dj i j a d d' hij h1 h2 h3
theorem wipe_only {σ' : St} {js vs : List Nat} (o : Only js (wipe σ vs) σ') (hs : ∀ j, j ∈ js → j ∈ vs) : wipe σ' vs = wipe σ vs := by
  apply List.ext_getElem?
  intro i
  by_cases hi : i ∈ vs
  · have key : ∀ (τ τ' : St), τ.length = τ'.length → ∀ ws : List Nat, i ∈ ws → (wipe τ ws)[i]? = (wipe τ' ws)[i]? := by
      intro τ τ' hl ws
      induction ws with
      | nil => intro h; cases h
      | cons w ws ih =>
        intro h
        unfold wipe
        by_cases hw : w = i
        · subst hw
          by_cases hlt : w < (wipe τ ws).length
          · rw [List.getElem?_set_self hlt, List.getElem?_set_self (by rw [wipe_length] at hlt ⊢; omega)]
          · rw [List.getElem?_eq_none (by simpa using hlt), List.getElem?_eq_none (by rw [wipe_length] at hlt; simp [wipe_length]; omega)]
        · rw [List.getElem?_set_ne hw, List.getElem?_set_ne hw]
          exact ih (by cases h with | head => exact absurd rfl hw | tail _ q => exact q)
    exact key σ' σ (by rw [o.1, wipe_length]) vs hi
  · rw [wipe_get hi, o.2 i fun q => hi (hs i q)]
def lcL (vs : List Nat) (gf : D → Env → Option Env) (tf : Env → Out Bool) (ef : Env → Out D) : List D → List D → Env → Out (List D)
  | [], acc, ε => .ok acc ε
  | d :: ds, acc, ε => match gf d ε with
    | none => .bad
    | some ε1 => match tf ε1 with
      | .ok true ε2 => (match ef ε2 with
        | .ok y ε3 => if acc.length < 100000 then lcL vs gf tf ef ds (acc ++ [y]) (wipeE ε3 vs) else .bad
        | _ => .bad)
      | .ok false ε2 => lcL vs gf tf ef ds acc (wipeE ε2 vs)
      | _ => .bad
def mkL : List D → Env → Out Sl := fun acc ε => .ok (.ow (.lst acc)) ε
def lcM (vs : List Nat) (fi : Env → Out (List D)) (gf : D → Env → Option Env) (tf : Env → Out Bool) (ef : Env → Out D) : Env → Out Sl := fun ε => (fi ε).bnd fun ds ε1 => (lcL vs gf tf ef ds [] (wipeE ε1 vs)).bnd mkL
def noW : WX := fun _ _ _ _ => False
theorem Pst.noW {o : Out α} {S : α → Env → Hp → Hp → Prop} {a : α} {ε' : Env} (e : o = .ok a ε') (h : ∀ G' H', Ex G G' → RepE u B G0 G' H' σ ε' → S a ε' G' H') : Pst u W B G0 σ G o S := by rw [e]; exact h
theorem rzm_lc {js vs : List Nat} {wi : TI} {g : TG} {tt : TT} {te : TE} {fi : Env → Out (List D)} {gf : D → Env → Option Env} {tf : Env → Out Bool} {ef : Env → Out D}
    (hi : RzI u W wi fi) (hg : RzG u js g gf) (ht : RzT u noW tt tf) (he : RzE u noW te ef) (hjs : ∀ j, j ∈ js → j ∈ vs := by decide) : RzM u W (tLc wi g tt te vs) (lcM vs fi gf tf ef) := fun B G0 G H σ ε Q R q =>
  hi _ _ _ _ _ _ _ R (q.bnd.mono fun ds ε1 G1 H1 e1 R1 h1 J wJ D0 hD => by
    have hBG := R1.free hD
    refine ⟨fun i m H => m = ds.length - i ∧ i ≤ ds.length ∧ ∃ ε G acc as, Ex G1 G ∧ RepE u (upd B D0 (.lst as)) G0 G H (wipe σ vs) ε ∧ RepL u G acc as ∧ (∀ j s, j ∈ vs → ε[j]? = some s → s = .no) ∧
      Pst u W B G0 σ G ((lcL vs gf tf ef (ds.drop i) acc ε).bnd mkL) (SM u B σ Q), ⟨ds.length, by simp, Nat.zero_le _, wipeE ε1 vs, G1, [], [], Ex.refl _, ?_, by simp [RepL], fun j s hj hs => wipeE_in hj s hs, h1⟩, ?_⟩
    · exact ((R1.lay hD (.lst [])).aside hBG.1 upd_same (apart_new R1 hD)).other vs (wipe_length _ _) fun i hi => wipe_get hi
    · rintro i m H2 ⟨rfl, hi, ε2, G2, acc, as, e2, R2, ra, hno, h2⟩
      obtain ⟨b1, b2, b3, b4⟩ := R2.back hBG.2.1 hBG.2.2 (fun _ z => by cases z)
      by_cases hlt : i < ds.length
      · refine .inr ⟨wJ.go i G2 H2 hlt e2 R2.gh, fun H' => ∃ ε G acc as, Ex G1 G ∧ RepE u (upd B D0 (.lst as)) G0 G H' (wipe σ vs) ε ∧ RepL u G acc as ∧ (∀ j s, j ∈ vs → ε[j]? = some s → s = .no) ∧
          Pst u W B G0 σ G ((lcL vs gf tf ef (ds.drop (i + 1)) acc ε).bnd mkL) (SM u B σ Q), fun H' h => ⟨ds.length - (i + 1), by omega, rfl, hlt, h⟩, fun x H3 hy => ?_⟩
        obtain ⟨G3, ext, rx⟩ := wJ.yld i G2 H2 x H3 ds[i] (by simp [hlt]) e2 R2.gh hy
        rw [List.drop_eq_getElem_cons hlt] at h2
        unfold lcL at h2
        refine hg _ _ _ _ _ _ _ _ _ (R2.ext ext) rx ?_
        cases eg : gf ds[i] ε2 with
        | none => rw [eg] at h2; exact h2.elim
        | some ε3 =>
          rw [eg] at h2
          simp only at h2
          refine fun σ4 R4 o4 => ⟨wipe_only o4 hjs, ht _ _ _ _ _ _ _ R4 ?_⟩
          have ow : ∀ i, i ∉ vs → (wipe σ vs)[i]? = σ4[i]? := fun i hi => (o4.2 i fun q => hi (hjs i q)).symm
          cases et : tf ε3 with
          | bad => rw [et] at h2; exact h2.elim
          | ex x ε4 => rw [et] at h2; exact h2.elim
          | ok b ε4 =>
            rw [et] at h2
            intro G5 H5 e5 R5
            show if b = true then _ else _
            cases b with
            | false =>
              simp only [Bool.false_eq_true, if_false]
              exact ⟨wipeE ε4 vs, G5, acc, as, (e2.trans ext.g).trans e5, R5.other vs o4.1.symm ow, RepL.mono (ext.g.trans e5) _ ra, fun j s hj hs => wipeE_in hj s hs, Pst.up (G := G2) h2 (ext.g.trans e5)⟩
            | true =>
              simp only [if_true]
              simp only at h2
              refine he _ _ _ _ _ _ _ R5 ?_
              cases ee : ef ε4 with
              | bad => rw [ee] at h2; exact h2.elim
              | ex x ε4 => rw [ee] at h2; exact h2.elim
              | ok y ε6 =>
                rw [ee] at h2
                intro G6 H6 e6 R6 v rv
                simp only at h2
                by_cases hz : acc.length < 100000
                · rw [if_pos hz] at h2
                  obtain ⟨c1, c2, c3, c4⟩ := R6.back hBG.2.1 hBG.2.2 (fun _ z => by cases z)
                  have eG : Ex G2 G6 := (ext.g.trans e5).trans e6
                  refine ⟨as, c2, sz_lt (by rw [← ra.length]; exact hz), wipeE ε6 vs, G6, acc ++ [y], as ++ [v], e2.trans eG, ?_, (RepL.mono eG _ ra).snoc rv, fun j s hj hs => wipeE_in hj s hs, Pst.up (G := G2) h2 eG⟩
                  refine RepE.other vs ?_ o4.1.symm ow
                  refine RepE.aside (l := D0) ?_ c1 upd_same c3
                  refine ⟨c4.len, c4.g0, c4.gb, c4.gh.mut c1, c4.bh.mut hBG.2.1, fun i s hs => ?_, c4.dj, c4.tb.chg c2 (by intro _ z; cases z) (by intro _ z; cases z) (fun _ _ _ _ _ => rfl) fun a o n q => by rw [upd_ne n]; exact q⟩
                  obtain ⟨o, a1, a2⟩ := c4.sl i s hs
                  refine ⟨o, a1, ?_⟩
                  cases s with
                  | no => trivial
                  | xn x => exact a2
                  | fz d => exact a2
                  | ow d =>
                    obtain ⟨l, z1, z2, z3, z4⟩ := a2
                    have hl : l ≠ D0 := fun q => by subst q; exact c3 i d hs (by rw [a1, z1])
                    exact ⟨l, z1, z2, z3, z4.mono (Ex.refl _) fun o z => by rw [upd_ne hl]; exact z⟩
                · rw [if_neg hz] at h2; exact h2.elim
      · have e : i = ds.length := by omega
        subst e
        rw [List.drop_length] at h2
        have R9 : RepE u B G0 G2 H2 σ ε2 := by
          have z := b4.other (σ' := σ) vs (wipe_length _ _).symm fun i hi => (wipe_get hi).symm
          have ew : wipeE ε2 vs = ε2 := by
            apply List.ext_getElem?
            intro i
            by_cases hi : i ∈ vs
            · cases e9 : ε2[i]? with
              | none =>
                rw [List.getElem?_eq_none_iff] at e9 ⊢
                rw [wipeE_length]; exact e9
              | some s =>
                have := hno i s hi e9
                subst this
                have hl : i < (wipeE ε2 vs).length := by rw [wipeE_length]; exact (List.getElem?_eq_some_iff.mp e9).1
                have q : (wipeE ε2 vs)[i]? = some (wipeE ε2 vs)[i] := by simp [hl]
                rw [q, wipeE_in hi _ q]
            · exact wipeE_get hi
          rwa [ew] at z
        have ap : Apart σ ε2 D0 := fun j d hj hs => by
          by_cases hv : j ∈ vs
          · have := hno j _ hv hj; cases this
          · exact b3 j d hj (by rw [wipe_get hv]; exact hs)
        exact .inl ⟨wJ.stop G2 H2 e2 R2.gh, Pst.ret (W := W) (B := B) (S := SM u B σ Q) (a := Sl.ow (.lst acc)) h2 R9 _ ⟨D0, rfl, b1, hBG.2.1, ⟨as, b2, ra⟩, ap⟩⟩)
def tYesF : Env → Out Bool := fun ε => .ok true ε
end
end ML
end
section
set_option Elab.async false
set_option linter.all false
set_option maxRecDepth 100000
set_option maxHeartbeats 2000000
set_option autoImplicit false
namespace ML
open PySem PySem.Spec PyProof.Rows L2

inductive Rt where
  | ret (d : D) | exn (x : Xn) | bad
def SO.fin : SO → Rt
  | .nx _ => .ret .non
  | .rt d _ => .ret d
  | _ => .bad
def SO.finX : SO → Rt
  | .nx _ => .ret .non
  | .rt d _ => .ret d
  | .ex x _ => .exn x
  | _ => .bad
def envOf (n : Nat) (ds : List D) : Env := ds.map Sl.fz ++ List.replicate (n - ds.length) .no
def runF (n : Nat) (F : Env → SO) (ds : List D) : Rt := (F (envOf n ds)).fin
def runX (n : Nat) (F : Env → SO) (ds : List D) : Rt := (F (envOf n ds)).finX
def Uv.wt (u : Uv) (t : List Tk) : Uv := { u with tb := t }
section
variable {u : Uv} {t : List Tk} {B G0 G G' H H' J : Hp} {σ : L2.St} {ε : Env}
mutual
theorem rep_wt : ∀ (x : D) (v : V), Rep (u.wt t) G x v ↔ Rep u G x v
  | .non, v => by simp only [Rep]
  | .bl _, v => by simp only [Rep]
  | .int _, v => by simp only [Rep]
  | .str _, v => by simp only [Rep]
  | .tup ds, v => by simp only [Rep, repL_wt ds]
  | .lst ds, v => by simp only [Rep, repL_wt ds]
  | .scr _, v => by simp only [Rep, Uv.wt]
  | .dk _ ds, v => by simp only [Rep, repL_wt ds]
  | .dt _ ds, v => by simp only [Rep, repL_wt ds]
  | .dn _ ds, v => by simp only [Rep, repL_wt ds]; simp only [Uv.wt]
  | .obj c _ ds, v => by simp only [Rep, repL_wt ds]; simp only [Uv.wt]
  | .mo c _ ds _, v => by simp only [Rep, repL_wt ds]; simp only [Uv.wt]
theorem repL_wt : ∀ (xs : List D) (vs : List V), RepL (u.wt t) G xs vs ↔ RepL u G xs vs
  | [], vs => by simp only [RepL]
  | d :: ds, vs => by simp only [RepL, rep_wt d, repL_wt ds]
end
theorem own_wt {l : Addr} {d : D} : Own (u.wt t) G H l d ↔ Own u G H l d := by
  cases d with
  | lst ds => simp only [Own, repL_wt]
  | dk ks ds => simp only [Own, repL_wt]
  | dt ks ds => simp only [Own, repL_wt]
  | dn ks ds => simp only [Own, repL_wt]; simp only [Uv.wt]
  | obj c fs ds => simp only [Own, repL_wt]; simp only [Uv.wt]
  | _ => exact Iff.rfl
theorem xn_wt {x : Xn} {c : Value} {dd : Option Addr} : XnOk (u.wt t) G x c dd ↔ XnOk u G x c dd := by
  simp only [XnOk, repL_wt]; simp only [Uv.wt]
end
def Uv.mt (u : Uv) (mo : Option (Addr × Addr × D)) (t : List Tk) : Uv := { u with mo := mo, tb := t }
def SpF0 (u : Uv) (n : Nat) (F : List D → Rt) : Sp := fun vs H Q E => ∃ B G ds, ds.length = n ∧ Ex G H ∧ Ex B H ∧ RepL u G ds vs ∧ match F ds with
  | .ret d => ∀ v G' H', Ex G G' → Nw B G G' → Ex G' H' → Ex B H' → Rep u G' d v → Q v H'
  | .exn x => ∀ c dd G' H', Ex G G' → Nw B G G' → Ex G' H' → Ex B H' → RepX u G' H' x c dd → E c dd H'
  | .bad => False
def SpF (u : Uv) (n : Nat) (F : List D → Rt) : Sp := fun vs H Q E => ∃ mo, SpF0 (u.mt mo []) n F vs H Q E
theorem spF_of {u : Uv} {n : Nat} {F : List D → Rt} {vs : List V} {H : Hp} {Q : VK} {E : XK} (h : SpF0 u n F vs H Q E) : SpF u n F vs H Q E := by
  obtain ⟨B, G, ds, hl, e, b, r, q⟩ := h
  refine ⟨u.mo, B, G, ds, hl, e, b, (repL_wt (u := u) (t := []) _ _).mpr r, ?_⟩
  cases ef : F ds with
  | ret d => rw [ef] at q; exact fun v G' H' a1 a2 a3 a4 a5 => q v G' H' a1 a2 a3 a4 ((rep_wt (u := u) (t := []) _ _).mp a5)
  | exn x => rw [ef] at q; exact fun c dd G' H' a1 a2 a3 a4 a5 => q c dd G' H' a1 a2 a3 a4 ((xn_wt (u := u) (t := [])).mp a5)
  | bad => rw [ef] at q; exact q
section
variable {u : Uv} {W : WX} {B G0 G G' H H' : Hp} {σ : L2.St} {ε : Env}
theorem repE_startT {N : List Str} {vs : List V} {ds : List D} (e : Ex G H) (b : Ex B H) (r : RepL u G ds vs) (tb : TabsOk u B G H) : RepE u B G G H (L2.start N vs) (envOf N.length ds) := by
  refine ⟨by simp [L2.start, envOf, r.length], Ex.refl _, Nw.refl, e, b, fun i s hs => ?_, fun i j a d d' hij h1 => ?_, tb⟩
  · unfold envOf at hs
    unfold L2.start
    by_cases hi : i < ds.length
    · rw [List.getElem?_append_left (by simpa using hi)] at hs
      rw [List.getElem?_append_left (by simpa [← r.length] using hi)]
      rw [List.getElem?_map] at hs ⊢
      have e1 : ds[i]? = some ds[i] := by simp [hi]
      rw [e1] at hs
      cases hs
      obtain ⟨v, e2, rv⟩ := r.get e1
      exact ⟨some v, by rw [e2]; rfl, v, rfl, rv⟩
    · rw [List.getElem?_append_right (by simpa using hi)] at hs
      rw [List.getElem?_append_right (by simpa [← r.length] using hi)]
      rw [List.getElem?_replicate] at hs ⊢
      simp only [List.length_map] at hs ⊢
      rw [← r.length]
      split at hs
      · cases hs
        rename_i hlt
        rw [if_pos hlt]
        exact ⟨none, rfl, trivial⟩
      · cases hs
  · unfold envOf at h1
    by_cases hi : i < ds.length
    · rw [List.getElem?_append_left (by simpa using hi), List.getElem?_map] at h1
      cases e1 : ds[i]? <;> rw [e1] at h1 <;> cases h1
    · rw [List.getElem?_append_right (by simpa using hi), List.getElem?_replicate] at h1
      split at h1 <;> cases h1
theorem repE_start {N : List Str} {vs : List V} {ds : List D} (hu : u.tb = []) (e : Ex G H) (b : Ex B H) (r : RepL u G ds vs) : RepE u B G G H (L2.start N vs) (envOf N.length ds) := repE_startT e b r (.nil hu)
variable {P : Program} {w : World} {mg : Str → Option Value} {base : Heap} {x qual : Str} {params : Arguments} {body : List Stmt} {scope : Scope} {f : Addr} {fd : FuncData}
theorem okF {K : PySem.W.Frag} {N ps : List Str} {k n : Nat} {F : Env → SO} (hK : u.K = K ∧ u.tb = []) (F0 : FunD K x qual params body scope [] [] f fd) (S : FnScope N ps scope) (hn : N.length = n)
    (hb : ∀ (cdv : Value) (A : Around) (outer : List PySem.Env) (s : Shared) (H : Hp) (E : XK), Room k (A.deeper (envOfC qual scope s.heap.objs.size f cdv)) → ∃ t, PSs (cxOf CX0 P w K mg base N qual scope f cdv A outer s H E).nox body t ∧ ∀ mo, RzS (u.mt mo []) noW [] t F) :
    FnOk P w K mg base CX0 (k + 1) f fd ps (SpF u ps.length (runF n F)) := by
  refine F0.ok S (fun vs H Q E ⟨mo, B, G, ds, hl, e, b, r, _⟩ => by rw [← r.length]; exact hl) fun cdv A outer s H vs Q E hr hsp => ?_
  obtain ⟨t, ht, hz⟩ := hb cdv A outer s H E hr
  refine ⟨t, ht.nox, ?_⟩
  obtain ⟨mo, B, G, ds, hl, e, b, r, q⟩ := hsp
  subst hn
  refine hz mo B G G H _ _ _ (repE_start rfl e b r) ?_
  unfold runF at q
  cases ef : F (envOf N.length ds) with
  | nx ε' => rw [ef] at q; exact fun σ' G' H' eg R _ => q .non G' H' eg R.gb R.gh R.bh (by simp only [Rep])
  | rt d ε' => rw [ef] at q; exact fun σ' v G' H' eg R _ rv => q v G' H' eg R.gb R.gh R.bh rv
  | ex x ε' => rw [ef] at q; exact q.elim
  | bk ε' => rw [ef] at q; exact q.elim
  | ct ε' => rw [ef] at q; exact q.elim
  | bad => rw [ef] at q; exact q.elim

def callO (r : Rt) (ε : Env) : Out D := match r with
  | .ret d => .ok d ε
  | .exn x => .ex x ε
  | .bad => .bad
def callF (n : Nat) (fa : Env → Out (List D)) (F : List D → Rt) : Env → Out D := fun ε => (fa ε).bnd fun ds ε1 => if ds.length = n then callO (F ds) ε1 else .bad
theorem rz_call {n : Nat} {E : XK} {ta : TA} {fa : Env → Out (List D)} {F : List D → Rt} (ha : RzA u W ta fa) (hE : ∀ c dd σ H, W c dd σ H → E c dd H) : RzE u W (tCall (SpF u n F) [] E ta) (callF n fa F) := fun B G0 G H σ ε Q R q =>
  ha _ _ _ _ _ _ _ R (q.bnd.mono fun ds ε1 G1 H1 e1 R1 h1 vs rvs => by
    by_cases hn : ds.length = n
    · simp only [if_pos hn] at h1
      refine spF_of ⟨H1, G1, ds, hn, R1.gh, Ex.refl _, by rw [List.append_nil]; exact rvs, ?_⟩
      cases ef : F ds with
      | ret d => rw [ef] at h1; exact fun v G' H' eg gb gh bh rv => Pst.ret' (a := d) h1 eg (R1.grow eg gb bh gh) v rv
      | exn x => rw [ef] at h1; exact fun c dd G' H' eg gb gh bh rx => hE c dd σ H' (h1 c dd G' H' eg (R1.grow eg gb bh gh) rx)
      | bad => rw [ef] at h1; exact h1.elim
    · simp only [if_neg hn] at h1; exact h1.elim)
theorem rz_call0 {n : Nat} {ta : TA} {fa : Env → Out (List D)} {F : List D → Rt} (ha : RzA u noW ta fa) : RzE u noW (tCall (SpF u n F) [] E0 ta) (callF n fa F) := rz_call ha fun _ _ _ _ h => h

inductive RtM where
  | ret (d d0 : D) | bad
def envM (n : Nat) (d0 : D) (ds : List D) : Env := .ow d0 :: (ds.map Sl.fz ++ List.replicate (n - 1 - ds.length) .no)
def ow0 : Env → Option D
  | .ow d :: _ => some d
  | _ => none
def SO.finM : SO → RtM
  | .nx ε => match ow0 ε with | some d0 => .ret .non d0 | none => .bad
  | .rt d ε => match ow0 ε with | some d0 => .ret d d0 | none => .bad
  | _ => .bad
def runM (n : Nat) (F : Env → SO) (d0 : D) (ds : List D) : RtM := (F (envM n d0 ds)).finM
def SpM0 (u : Uv) (n : Nat) (F : D → List D → RtM) : Sp := fun vs H Q E => ∃ B G l d0 ds ws, ds.length = n ∧ vs = .ref l :: ws ∧ Ex G H ∧ Ex B H ∧ G l = none ∧ B l = none ∧ Own u G H l d0 ∧ RepL u G ds ws ∧ match F d0 ds with
  | .ret d d1 => ∀ v G' H', Ex G G' → Nw B G G' → Ex G' H' → Ex B H' → G' l = none → Own u G' H' l d1 → Rep u G' d v → Q v H'
  | .bad => False
def SpM (u : Uv) (n : Nat) (F : D → List D → RtM) : Sp := fun vs H Q E => ∃ mo, SpM0 (u.mt mo []) n F vs H Q E
theorem spM_of {u : Uv} {n : Nat} {F : D → List D → RtM} {vs : List V} {H : Hp} {Q : VK} {E : XK} (h : SpM0 u n F vs H Q E) : SpM u n F vs H Q E := by
  obtain ⟨B, G, l, d0, ds, ws, hl, ev, e, b, g1, g2, o, r, q⟩ := h
  refine ⟨u.mo, B, G, l, d0, ds, ws, hl, ev, e, b, g1, g2, (own_wt (u := u) (t := [])).mpr o, (repL_wt (u := u) (t := []) _ _).mpr r, ?_⟩
  cases ef : F d0 ds with
  | ret d d1 => rw [ef] at q; exact fun v G' H' a1 a2 a3 a4 a5 a6 a7 => q v G' H' a1 a2 a3 a4 a5 ((own_wt (u := u) (t := [])).mp a6) ((rep_wt (u := u) (t := []) _ _).mp a7)
  | bad => rw [ef] at q; exact q
theorem repE_startM {N : List Str} {vs : List V} {d0 : D} {ds : List D} {l : Addr} (hu : u.tb = []) (hN : 1 ≤ N.length) (e : Ex G H) (b : Ex B H) (hg : G l = none) (hb : B l = none) (ho : Own u G H l d0) (r : RepL u G ds vs) :
    RepE u B G G H (L2.start N (.ref l :: vs)) (envM N.length d0 ds) := by
  have hz := repE_start (u := u) (B := B) (N := N) (vs := .non :: vs) (ds := .non :: ds) hu e b ⟨.non, vs, rfl, by simp only [Rep], r⟩
  have h2 := hz.setO 0 hg hb ho (fun i d hi => by
    intro _
    unfold envOf at hi
    by_cases hlt : i < (D.non :: ds).length
    · rw [List.getElem?_append_left (by simpa using hlt), List.getElem?_map] at hi
      cases e1 : (D.non :: ds)[i]? <;> rw [e1] at hi <;> cases hi
    · rw [List.getElem?_append_right (by simpa using hlt), List.getElem?_replicate] at hi
      split at hi <;> cases hi)
  have e1 : (L2.start N (.non :: vs)).set 0 (some (V.ref l)) = L2.start N (.ref l :: vs) := by simp [L2.start]
  have e2 : (envOf N.length (.non :: ds)).set 0 (Sl.ow d0) = envM N.length d0 ds := by
    simp only [envOf, envM, List.map_cons, List.cons_append, List.set_cons_zero, List.length_cons]
    congr 3
    omega
  rw [e1, e2] at h2
  exact h2
theorem ow0_some {ε : Env} {d : D} (h : ow0 ε = some d) : ε[0]? = some (.ow d) := by
  cases ε with
  | nil => cases h
  | cons s r =>
    cases s with
    | ow d' => simp only [ow0, Option.some.injEq] at h; subst h; rfl
    | _ => cases h
theorem okM {K : PySem.W.Frag} {N ps : List Str} {k n m : Nat} {F : Env → SO} (hK : u.K = K ∧ u.tb = []) (F0 : FunD K x qual params body scope [] [] f fd) (S : FnScope N ps scope) (hn : N.length = n) (hm : ps.length = m + 1)
    (hb : ∀ (cdv : Value) (A : Around) (outer : List PySem.Env) (s : Shared) (H : Hp) (E : XK), Room k (A.deeper (envOfC qual scope s.heap.objs.size f cdv)) → ∃ t, PSs (cxOf CX0 P w K mg base N qual scope f cdv A outer s H E).nox body t ∧ ∀ mo, RzS (u.mt mo []) noW [0] t F) :
    FnOk P w K mg base CX0 (k + 1) f fd ps (SpM u m (runM n F)) := by
  refine F0.ok S (fun vs H Q E ⟨mo, B, G, l, d0, ds, ws, hl, ev, e, b, _, _, _, r, _⟩ => by rw [ev, List.length_cons, ← r.length, hl, hm]) fun cdv A outer s H vs Q E hr hsp => ?_
  obtain ⟨t, ht, hz⟩ := hb cdv A outer s H E hr
  refine ⟨t, ht.nox, ?_⟩
  obtain ⟨mo, B, G, l, d0, ds, ws, hl, rfl, e, b, hg, hb', ho, r, q⟩ := hsp
  subst hn
  have hN : 1 ≤ N.length := by
    have h1 := congrArg List.length S.pre
    rw [List.length_take] at h1
    omega
  refine hz mo B G G H _ _ _ (repE_startM rfl hN e b hg hb' ho r) ?_
  have fin : ∀ (σ' : L2.St) (ε' : Env) (G' H' : Hp) (d1 : D), RepE (u.mt mo []) B G G' H' σ' ε' → Kp [0] (L2.start N (.ref l :: ws)) σ' → ow0 ε' = some d1 → G' l = none ∧ Own (u.mt mo []) G' H' l d1 := fun σ' ε' G' H' d1 R k h1 => by
    obtain ⟨o, a1, a2⟩ := R.sl 0 _ (ow0_some h1)
    obtain ⟨l', rfl, a3, a4, a5⟩ := a2
    have k0 : σ'[0]? = some (some (.ref l)) := by rw [k 0 (by simp)]; rfl
    rw [a1] at k0
    cases k0
    exact ⟨a3, a5⟩
  unfold runM at q
  cases ef : F (envM N.length d0 ds) with
  | nx ε' =>
    rw [ef] at q
    simp only [SO.finM] at q
    cases eo : ow0 ε' with
    | none => rw [eo] at q; exact q.elim
    | some d1 =>
      rw [eo] at q
      exact fun σ' G' H' eg R k => by
        obtain ⟨z1, z2⟩ := fin σ' ε' G' H' d1 R k eo
        exact q .non G' H' eg R.gb R.gh R.bh z1 z2 (by simp only [Rep])
  | rt d ε' =>
    rw [ef] at q
    simp only [SO.finM] at q
    cases eo : ow0 ε' with
    | none => rw [eo] at q; exact q.elim
    | some d1 =>
      rw [eo] at q
      exact fun σ' v G' H' eg R k rv => by
        obtain ⟨z1, z2⟩ := fin σ' ε' G' H' d1 R k eo
        exact q v G' H' eg R.gb R.gh R.bh z1 z2 rv
  | ex x ε' => rw [ef] at q; exact q.elim
  | bk ε' => rw [ef] at q; exact q.elim
  | ct ε' => rw [ef] at q; exact q.elim
  | bad => rw [ef] at q; exact q.elim
def sans (H : Hp) (l : Addr) : Hp := fun a => if a = l then none else H a
theorem sans_ex {l : Addr} : Ex (sans H l) H := fun a o h => by
  unfold sans at h
  split at h
  · cases h
  · exact h
theorem sans_ne {l a : Addr} (h : a ≠ l) : sans H l a = H a := if_neg h
theorem sans_at {l : Addr} : sans H l l = none := if_pos rfl
theorem RepE.chg {i : Nat} {l : Addr} {d d' : D} (R : RepE u B G0 G H σ ε) (hi : ε[i]? = some (.ow d)) (hs : σ[i]? = some (some (.ref l))) (eg : Ex G G') (nw : Nw (sans H l) G G') (gh : Ex G' H') (bh : Ex (sans H l) H') (hg : G' l = none) (ho : Own u G' H' l d') :
    RepE u B G0 G' H' σ (ε.set i (.ow d')) := by
  obtain ⟨o, a1, a2⟩ := R.sl i _ hi
  rw [hs] at a1
  cases a1
  obtain ⟨l', q, b1, b2, b3⟩ := a2
  cases q
  have Rb : Ex B (sans H l) := fun a o h => by rw [sans_ne (ne_of_none h b2)]; exact R.bh a o h
  have R1 : RepE u B G0 G' H' σ (ε.set i .no) := by
    refine ⟨by simp [R.len], R.g0.trans eg, R.gb.trans (nw.less Rb), gh, Rb.trans bh, fun j s h => ?_, fun j k a e e' hjk h1 h2 h3 => ?_, ?_⟩
    · by_cases hj : j = i
      · subst hj
        rw [List.getElem?_set_self (List.getElem?_eq_some_iff.mp hi).1] at h
        cases h
        exact ⟨_, hs, trivial⟩
      · rw [List.getElem?_set_ne (Ne.symm hj)] at h
        obtain ⟨o, z1, z2⟩ := R.sl j s h
        refine ⟨o, z1, ?_⟩
        cases s with
        | no => trivial
        | xn x => exact ⟨z2.1, z2.2.mono eg⟩
        | fz d => obtain ⟨v, c1, c2⟩ := z2; exact ⟨v, c1, c2.mono eg⟩
        | ow e =>
          obtain ⟨m, c1, c2, c3, c4⟩ := z2
          have hm : m ≠ l := fun q => by subst q; exact R.dj i j m d e (Ne.symm hj) hi h hs (by rw [z1, c1])
          obtain ⟨oo, c5⟩ := Own.has c4
          exact ⟨m, c1, (nw.at_ (o := oo) (by rw [sans_ne hm]; exact c5) (c4.ntup c5)).trans c2, c3, c4.mono eg fun o z => bh _ _ (by rw [sans_ne hm]; exact z)⟩
    · have hj : j ≠ i := fun q => by subst q; rw [List.getElem?_set_self (List.getElem?_eq_some_iff.mp hi).1] at h1; cases h1
      have hk : k ≠ i := fun q => by subst q; rw [List.getElem?_set_self (List.getElem?_eq_some_iff.mp hi).1] at h2; cases h2
      rw [List.getElem?_set_ne (Ne.symm hj)] at h1
      rw [List.getElem?_set_ne (Ne.symm hk)] at h2
      exact R.dj j k a e e' hjk h1 h2 h3
    · obtain ⟨oo, c5⟩ := Own.has b3
      exact R.tb.chg c5 (b3.ntt c5) (b3.nx c5) (fun a o n q t => nw.at_ (o := o) (by rw [sans_ne n]; exact q) t) (fun a o n q => bh _ _ (by rw [sans_ne n]; exact q)) eg
  have ap : Apart σ (ε.set i .no) l := fun j e h q => by
    have hj : j ≠ i := fun q => by subst q; rw [List.getElem?_set_self (List.getElem?_eq_some_iff.mp hi).1] at h; cases h
    rw [List.getElem?_set_ne (Ne.symm hj)] at h
    exact R.dj i j l d e (Ne.symm hj) hi h hs q
  have R2 := R1.setO i hg b2 ho ap
  rw [set_same hs, List.set_set] at R2
  exact R2
theorem RepE.own {i : Nat} {d : D} (R : RepE u B G0 G H σ ε) (hi : ε[i]? = some (.ow d)) : ∃ l, σ[i]? = some (some (.ref l)) ∧ G l = none ∧ B l = none ∧ Own u G H l d := by
  obtain ⟨o, a1, a2⟩ := R.sl i _ hi
  obtain ⟨l, rfl, a3, a4, a5⟩ := a2
  exact ⟨l, a1, a3, a4, a5⟩
def ownAt (i : Nat) (ε : Env) : Option D := match ε[i]? with
  | some (.ow d) => some d
  | _ => none
theorem ownAt_some {i : Nat} {d : D} (h : ownAt i ε = some d) : ε[i]? = some (.ow d) := by
  unfold ownAt at h
  split at h
  · cases h; assumption
  · cases h
def callMF (n i : Nat) (fa : Env → Out (List D)) (F : D → List D → RtM) : Env → Out D := fun ε => match ownAt i ε with
  | none => .bad
  | some _ => (fa ε).bnd fun ds ε1 => if ds.length = n then (match ownAt i ε1 with
    | none => .bad
    | some d => match F d ds with
      | .ret r d' => .ok r (ε1.set i (.ow d'))
      | .bad => .bad) else .bad
theorem rz_callM {n i : Nat} {E : XK} {ta : TA} {fa : Env → Out (List D)} {F : D → List D → RtM} (ha : RzA u W ta fa) : RzE u W (tCall (SpM u n F) [] E (tCons (tVar i) ta)) (callMF n i fa F) := fun B G0 G H σ ε Q R q => by
  unfold callMF at q
  cases e0 : ownAt i ε with
  | none => rw [e0] at q; exact q.elim
  | some d0 =>
    rw [e0] at q
    simp only at q
    obtain ⟨l, hv, _⟩ := R.own (ownAt_some e0)
    refine ⟨_, hv, ha _ _ _ _ _ _ _ R (q.bnd.mono fun ds ε1 G1 H1 e1 R1 h1 vs rvs => ?_)⟩
    by_cases hn : ds.length = n
    · simp only [if_pos hn] at h1
      cases eo : ownAt i ε1 with
      | none => simp only [eo] at h1; exact h1.elim
      | some d =>
        simp only [eo] at h1
        obtain ⟨l', a1, a2, a3, a4⟩ := R1.own (ownAt_some eo)
        rw [hv] at a1
        cases a1
        refine spM_of ⟨sans H1 l, G1, l, d, ds, vs, hn, by simp, R1.gh, sans_ex, a2, sans_at, a4, rvs, ?_⟩
        cases ef : F d ds with
        | bad => rw [ef] at h1; exact h1.elim
        | ret r d' =>
          rw [ef] at h1
          exact fun v G' H' eg nw gh bh hg ho rv => Pst.ret' (a := r) h1 eg (R1.chg (ownAt_some eo) hv eg nw gh bh hg ho) v rv
    · simp only [if_neg hn] at h1; exact h1.elim
end
end ML
end
section
set_option Elab.async false
set_option linter.all false
set_option maxRecDepth 100000
set_option maxHeartbeats 2000000
set_option autoImplicit false
namespace ML
open PySem PySem.Spec PyProof.Rows L2
section
variable {u : Uv} {W : WX} {b : List Nat} {B G0 G G' H H' : Hp} {σ : L2.St} {ε : Env}

theorem RepE.put {i : Nat} {l : Addr} {d d' : D} {o : HO} (R : RepE u B G0 G H σ ε) (hi : ε[i]? = some (.ow d)) (hs : σ[i]? = some (some (.ref l))) (hg : G l = none) (ho : Own u G (upd H l o) l d') : RepE u B G0 G (upd H l o) σ (ε.set i (.ow d')) :=
  R.chg hi hs (Ex.refl _) Nw.refl (R.gh.mut hg) (fun a x q => by
    have ha : a ≠ l := fun z => by subst z; rw [sans_at] at q; cases q
    rw [sans_ne ha] at q; rw [upd_ne ha]; exact q) hg ho
def ownL (i : Nat) (ε : Env) : Option (List D) := match ε[i]? with
  | some (.ow (.lst ds)) => some ds
  | _ => none
theorem ownL_some {i : Nat} {ds : List D} (h : ownL i ε = some ds) : ε[i]? = some (.ow (.lst ds)) := by
  unfold ownL at h
  split at h
  · cases h; assumption
  · cases h
theorem RepE.ownl {i : Nat} {ds : List D} (R : RepE u B G0 G H σ ε) (hi : ownL i ε = some ds) : ∃ l vs, σ[i]? = some (some (.ref l)) ∧ G l = none ∧ B l = none ∧ H l = some (.lst vs) ∧ RepL u G ds vs := by
  obtain ⟨l, a1, a2, a3, vs, a4, a5⟩ := R.own (ownL_some hi)
  exact ⟨l, vs, a1, a2, a3, a4, a5⟩
theorem RepE.putl {i : Nat} {l : Addr} {ds ds' : List D} {vs : List V} (R : RepE u B G0 G H σ ε) (hi : ownL i ε = some ds) (hs : σ[i]? = some (some (.ref l))) (hg : G l = none) (r : RepL u G ds' vs) : RepE u B G0 G (upd H l (.lst vs)) σ (ε.set i (.ow (.lst ds'))) :=
  R.put (ownL_some hi) hs hg ⟨vs, upd_same, r⟩
def appF (i : Nat) (f : Env → Out D) : Env → SO := fun ε => match ownL i ε with
  | none => .bad
  | some _ => (f ε).toS fun d ε1 => match ownL i ε1 with
    | some ds => if ds.length < 100000 then .nx (ε1.set i (.ow (.lst (ds ++ [d])))) else .bad
    | none => .bad
theorem rs_app {i : Nat} {te : TE} {f : Env → Out D} (h : RzE u W te f) : RzS u W b (tDrop (tBM u.K "list" rAppend (tVar i) (tCons te tNil))) (appF i f) := fun B G0 G H σ ε N R q => by
  unfold appF at q
  cases e0 : ownL i ε with
  | none => rw [e0] at q; exact q.elim
  | some d0 =>
    rw [e0] at q
    simp only at q
    obtain ⟨l, vs0, hv, hg, hb, h0, _⟩ := R.ownl e0
    refine ⟨_, hv, .inl ⟨rfl, vs0, SqL.of h0⟩, h _ _ _ _ _ _ _ R (q.bnd.mono fun d ε1 G1 H1 e1 R1 h1 v rv => ?_)⟩
    cases eo : ownL i ε1 with
    | none => simp only [eo] at h1; exact h1.elim
    | some ds =>
      simp only [eo] at h1
      obtain ⟨l', vs, a1, a2, a3, a4, a5⟩ := R1.ownl eo
      rw [hv] at a1
      cases a1
      by_cases hz : ds.length < 100000
      · rw [if_pos hz] at h1
        exact ⟨l, vs, v, rfl, rfl, a4, sz_lt (by rw [← a5.length]; exact hz), h1.next (R1.putl eo hv a2 (a5.snoc rv)) .refl⟩
      · rw [if_neg hz] at h1; exact h1.elim
def extF (i : Nat) (f : Env → Out D) : Env → SO := fun ε => match ownL i ε with
  | none => .bad
  | some _ => (f ε).toS fun d ε1 => match d, ownL i ε1 with
    | .lst es, some ds => if ds.length + es.length ≤ 100000 then .nx (ε1.set i (.ow (.lst (ds ++ es)))) else .bad
    | _, _ => .bad
def popF (i : Nat) : Env → Out D := fun ε => match ownL i ε with
  | none => .bad
  | some ds => match ds[ds.length - 1]? with
    | some d => .ok d (ε.set i (.ow (.lst ds.dropLast)))
    | none => .bad
def setIF (i : Nat) (fe fi : Env → Out D) : Env → SO := fun ε => (fe ε).toS fun d ε1 => match ownL i ε1 with
  | none => .bad
  | some _ => (fi ε1).toS fun k ε2 => match k, ownL i ε2 with
    | .int k, some ds => (match ixN ds.length k with
      | some j => .nx (ε2.set i (.ow (.lst (ds.set j d))))
      | none => .bad)
    | _, _ => .bad
theorem rs_setI {i : Nat} {te ti : TE} {fe fi : Env → Out D} (h : RzE u W te fe) (h' : RzE u W ti fi) : RzS u W b (tAsg te (gSub (tVar i) ti rSetL)) (setIF i fe fi) := fun B G0 G H σ ε N R q =>
  h _ _ _ _ _ _ _ R (q.bnd.mono fun d ε1 G1 H1 e1 R1 h1 v rv => by
    cases e0 : ownL i ε1 with
    | none => simp only [e0] at h1; exact h1.elim
    | some d0 =>
      simp only [e0] at h1
      obtain ⟨l, vs0, hv, _⟩ := R1.ownl e0
      refine ⟨_, hv, h' _ _ _ _ _ _ _ R1 (h1.bnd.mono fun k ε2 G2 H2 e2 R2 h2 w rw => ?_)⟩
      cases k with
      | int k =>
        cases eo : ownL i ε2 with
        | none => simp only [eo] at h2; exact h2.elim
        | some ds =>
          simp only [eo] at h2
          obtain ⟨l', vs, a1, a2, a3, a4, a5⟩ := R2.ownl eo
          rw [hv] at a1
          cases a1
          cases ej : ixN ds.length k with
          | none => rw [ej] at h2; exact h2.elim
          | some j =>
            rw [ej] at h2
            simp only [Rep] at rw
            exact ⟨l, vs, k, j, rfl, rw, a4, by rw [← a5.length]; exact ej, h2.next (R2.putl eo hv a2 (a5.set j (rv.mono e2))) .refl⟩
      | _ => exact h2.elim)
def toKey : D → Option Key
  | .int i => some (.inl i)
  | .str s => some (.inr s)
  | _ => none
theorem toKey_rep {d : D} {k : Key} {v : V} (h : toKey d = some k) (r : Rep u G d v) : v = kV k := by
  cases d with
  | int i => cases h; exact (by simpa only [Rep] using r : v = V.int i)
  | str i => cases h; exact (by simpa only [Rep] using r : v = V.str i)
  | _ => cases h
def valD {κ : Type} [DecidableEq κ] (ks : List κ) (xs : List D) (k : κ) : Option D := ((ks.zip xs).find? fun p => decide (p.1 = k)).map (·.2)
def putD {κ : Type} [DecidableEq κ] (ks : List κ) (xs : List D) (k : κ) (d : D) : List κ × List D :=
  if k ∈ ks then (ks, List.zipWith (fun k' x => if k' = k then d else x) ks xs) else (ks ++ [k], xs ++ [d])
theorem valD_rep {κ : Type} [DecidableEq κ] {k : κ} : ∀ {ks : List κ} {xs : List D} {ws : List V}, RepL u G xs ws → ks.length = ws.length →
    (valD ks xs k = none ∧ valV (ks.zip ws) k = none) ∨ ∃ d v, valD ks xs k = some d ∧ valV (ks.zip ws) k = some v ∧ Rep u G d v
  | [], _, _, _, _ => .inl ⟨rfl, rfl⟩
  | k' :: ks, [], _, r, h => by simp only [RepL] at r; subst r; cases h
  | k' :: ks, x :: xs, ws, r, h => by
    simp only [RepL] at r
    obtain ⟨v, rr, rfl, r1, r2⟩ := r
    by_cases e : k' = k
    · exact .inr ⟨x, v, by simp [valD, List.find?_cons, e], by simp [valV, List.find?_cons, e], r1⟩
    · have := valD_rep (k := k) (ks := ks) (xs := xs) (ws := rr) r2 (by simpa using h)
      simpa [valD, valV, List.find?_cons, e] using this
def kysOf : List D → Option (List Key)
  | [] => some []
  | d :: ds => (toKey d).bind fun k => (kysOf ds).map (k :: ·)
def toKeys : D → Option (List Key)
  | .tup ds => kysOf ds
  | _ => none
theorem kysOf_rep : ∀ {ds : List D} {ks : List Key} {vs : List V}, kysOf ds = some ks → RepL u G ds vs → vs = ks.map kV
  | [], ks, vs, h, r => by simp only [RepL] at r; subst r; simp [kysOf] at h; subst h; rfl
  | d :: ds, ks, vs, h, r => by
    simp only [RepL] at r
    obtain ⟨v, w, rfl, r1, r2⟩ := r
    cases e1 : toKey d with
    | none => simp [kysOf, e1] at h
    | some k =>
      cases e2 : kysOf ds with
      | none => simp [kysOf, e1, e2] at h
      | some l =>
        simp [kysOf, e1, e2] at h
        subst h
        rw [toKey_rep e1 r1, kysOf_rep e2 r2]; rfl
theorem toKeys_rep {d : D} {ks : List Key} {v : V} (h : toKeys d = some ks) (r : Rep u G d v) : ∃ b, v = .ref b ∧ G b = some (.tup (ks.map kV)) := by
  cases d with
  | tup ds =>
    simp only [Rep] at r
    obtain ⟨a, vs, rfl, r1, r2⟩ := r
    exact ⟨a, rfl, by rw [r1, kysOf_rep h r2]⟩
  | _ => cases h
def dput : D → D → D → Option D
  | .dk ks xs, k, d => (toKey k).bind fun k => if xs.length < 100000 then some (.dk (putD ks xs k d).1 (putD ks xs k d).2) else none
  | .dt ks xs, k, d => (toKeys k).bind fun k => if xs.length < 100000 then some (.dt (putD ks xs k d).1 (putD ks xs k d).2) else none
  | _, _, _ => none
def dputF (i : Nat) (fe fk : Env → Out D) : Env → SO := fun ε => (fe ε).toS fun d ε1 => match ownAt i ε1 with
  | none => .bad
  | some _ => (fk ε1).toS fun k ε2 => match (ownAt i ε2).bind fun x => dput x k d with
    | some x' => .nx (ε2.set i (.ow x'))
    | none => .bad
def dnewTM : Env → Out Sl := fun ε => .ok (.ow (.dt [] [])) ε
def dnewM : Env → Out Sl := fun ε => .ok (.ow (.dk [] [])) ε
theorem rzm_dnew : RzM u W tDNewK dnewM := fun B G0 G H σ ε Q R q p hp =>
  q.ret' (Ex.refl _) (R.lay hp _) _ ⟨p, rfl, (R.free hp).1, (R.free hp).2.1, ⟨[], upd_same, rfl, by simp [RepL]⟩, apart_new R hp⟩
def done1M (fk fv : Env → Out D) : Env → Out Sl := fun ε => (fk ε).bnd fun k ε1 => (fv ε1).bnd fun d ε2 => Out.opt ((toKey k).map fun k => .ow (.dk [k] [d])) ε2
def lookAt (i : Nat) (ε : Env) : Option D := match ε[i]? with
  | some (.fz d) => some d
  | some (.ow d) => some d
  | _ => none
theorem RepE.look {i : Nat} {d : D} (R : RepE u B G0 G H σ ε) (h : lookAt i ε = some d) : ∃ v, σ[i]? = some (some v) ∧ Rep u H d v := by
  unfold lookAt at h
  cases e : ε[i]? with
  | none => rw [e] at h; cases h
  | some s =>
    rw [e] at h
    obtain ⟨o, a1, a2⟩ := R.sl i s e
    cases s with
    | no => cases h
    | xn x => cases h
    | fz d' => cases h; obtain ⟨v, rfl, r⟩ := a2; exact ⟨v, a1, r.mono R.gh⟩
    | ow d' =>
      cases h
      obtain ⟨l, rfl, _, _, w⟩ := a2
      obtain ⟨o, c1, c2⟩ := Own.rep w
      exact ⟨.ref l, a1, c2 H R.gh c1⟩
def isSc : D → Bool
  | .non => true | .bl _ => true | .int _ => true | .str _ => true | _ => false
def opPLF (i : Nat) (fb : Env → Out D) (f : D → D → Option D) : Env → Out D := fun ε => match lookAt i ε with
  | none => .bad
  | some _ => (fb ε).bnd fun e ε1 => match (lookAt i ε1).bind fun d => f d e with
    | some z => if isSc z = true then .ok z ε1 else .bad
    | none => .bad
def opPRF (i : Nat) (fa : Env → Out D) (f : D → D → Option D) : Env → Out D := fun ε => (fa ε).bnd fun d ε1 => match (lookAt i ε1).bind fun e => f d e with
  | some z => if isSc z = true then .ok z ε1 else .bad
  | none => .bad
def dinPF (neg : Bool) (i : Nat) (fk : Env → Out D) : Env → Out D := fun ε => (fk ε).bnd fun k ε1 => match toKey k, lookAt i ε1 with
  | some k, some (.dk ks xs) => .ok (.bl (if neg then !(valD ks xs k).isSome else (valD ks xs k).isSome)) ε1
  | none, some (.dt ks xs) => (match toKeys k with
    | some k => .ok (.bl (if neg then !(valD ks xs k).isSome else (valD ks xs k).isSome)) ε1
    | none => .bad)
  | _, _ => .bad
def dgetD : D → D → Option D
  | .dk ks xs, k => (toKey k).bind fun k => valD ks xs k
  | .dt ks xs, k => (toKeys k).bind fun k => valD ks xs k
  | _, _ => none
def dgetF (f fk : Env → Out D) : Env → Out D := op2F f fk dgetD
theorem rz_dget {td tk : TE} {f fk : Env → Out D} (h : RzE u W td f) (hk : RzE u W tk fk) : RzE u W (tDGet td tk) (dgetF f fk) := fun B G0 G H σ ε Q R q =>
  h _ _ _ _ _ _ _ R (q.bnd.mono fun d ε1 G1 H1 e1 R1 h1 v rv => hk _ _ _ _ _ _ _ R1 (h1.bnd.mono fun k ε2 G2 H2 e2 R2 h2 w rw => by
    obtain ⟨z, hz, h3⟩ := h2.opt
    cases d with
    | dk ks xs =>
      have rv := rv.mono e2
      simp only [Rep] at rv
      obtain ⟨a, ws, rfl, c1, c2, c3⟩ := rv
      cases ek : toKey k with
      | none => simp [dgetD, ek] at hz
      | some kk =>
        simp only [dgetD, ek, Option.bind_some] at hz
        rcases valD_rep (k := kk) c3 c2 with ⟨z1, z2⟩ | ⟨d, v, z1, z2, z3⟩
        · rw [z1] at hz; cases hz
        · rw [z1] at hz; cases hz
          have hw := toKey_rep ek rw
          subst hw
          exact ⟨a, v, rfl, z2 ▸ DGet.k (R2.gh _ _ c1), h3.ret R2 _ z3⟩
    | dt ks xs =>
      have rv := rv.mono e2
      simp only [Rep] at rv
      obtain ⟨a, ws, rfl, c1, c2, c3⟩ := rv
      cases ek : toKeys k with
      | none => simp [dgetD, ek] at hz
      | some kk =>
        simp only [dgetD, ek, Option.bind_some] at hz
        rcases valD_rep (k := kk) c3 c2 with ⟨z1, z2⟩ | ⟨d, v, z1, z2, z3⟩
        · rw [z1] at hz; cases hz
        · rw [z1] at hz; cases hz
          obtain ⟨b, hb, eb⟩ := toKeys_rep ek rw
          subst hb
          exact ⟨a, v, rfl, z2 ▸ DGet.t (R2.gh _ _ c1) (R2.gh _ _ eb), h3.ret R2 _ z3⟩
    | _ => cases hz))
def dgetPF (i : Nat) (fk : Env → Out D) : Env → Out D := fun ε => match ε[i]? with
  | some (.ow x) => (fk ε).bnd fun k ε1 => if (match ε1[i]? with | some (.ow _) => true | _ => false) then Out.opt ((ownAt i ε1).bind fun x => dgetD x k) ε1 else .bad
  | _ => .bad
end
end ML
end
section
set_option Elab.async false
set_option linter.all false
set_option maxRecDepth 100000
set_option maxHeartbeats 2000000
set_option autoImplicit false
namespace ML
open PySem PySem.Spec PyProof.Rows L2
section
variable {u : Uv} {W : WX} {b : List Nat} {B G0 G G' H H' : Hp} {σ : L2.St} {ε : Env}

def signsD (z : Str) : List D := z.cps.toList.map fun c => D.str ⟨#[c]⟩
def itemsD : D → Option (List D)
  | .lst ds => some ds
  | .tup ds => some ds
  | .scr ns => some (ns.map D.int)
  | .str z => some (signsD z)
  | _ => none
theorem repL_ints : ∀ {ns : List Int}, RepL u G (ns.map D.int) (ns.map V.int)
  | [] => by simp [RepL]
  | n :: ns => ⟨.int n, ns.map V.int, rfl, by simp only [Rep], repL_ints⟩
theorem walk_seq {J : It} {ds : List D} {vs : List V} {Gd : Hp → Prop} (r : RepL u G ds vs) (hg : ∀ H, Ex G H → Gd H) (w : Walk J vs.length Gd (YAt vs)) : WalkD u J ds G :=
  ⟨fun i G1 H hi e1 e2 => w.goes i H (by rw [← r.length]; exact hi) (hg H (e1.trans e2)), fun G1 H e1 e2 => by rw [r.length]; exact w.stops H (hg H (e1.trans e2)), fun i G1 H x H' d hd e1 e2 hy => by
    have hi : i < vs.length := by rw [← r.length]; exact (List.getElem?_eq_some_iff.mp hd).1
    obtain ⟨e3, hx⟩ := w.yields i H x H' hi (hg H (e1.trans e2)) hy
    subst e3
    obtain ⟨v, hv, rv⟩ := r.get hd
    rw [hx] at hv
    cases hv
    exact ⟨G1, Ext.refl e2, rv.mono e1⟩⟩
theorem walk_signs {z : Str} : WalkD u (Its z) (signsD z) G :=
  ⟨fun i G1 H hi _ _ => by show i < z.cps.size; simpa [signsD] using hi, fun G1 H _ _ => by show z.cps.size ≤ _; simp [signsD], fun i G1 H x H' d hd e1 e2 hy => by
    obtain ⟨e3, c, hc, hx⟩ := (hy : H' = H ∧ ∃ c, z.cps[i]? = some c ∧ x = .str ⟨#[c]⟩)
    subst e3 hx
    simp only [signsD, List.getElem?_map, Array.getElem?_toList, hc, Option.map_some, Option.some.injEq] at hd
    subst hd
    exact ⟨G1, Ext.refl e2, by simp only [Rep]⟩⟩
def itF (f : Env → Out D) : Env → Out (List D) := fun ε => (f ε).bnd fun d ε1 => Out.opt (itemsD d) ε1
theorem ri_any {te : TE} {f : Env → Out D} (h : RzE u W te f) : RzI u W (MH.iAny u.K te) (itF f) := fun B G0 G H σ ε Q R q =>
  h _ _ _ _ _ _ _ R (q.bnd.mono fun d ε1 G1 H1 e1 R1 h1 v rv => by
    obtain ⟨ds, hd, h2⟩ := h1.opt
    cases d with
    | lst xs =>
      cases hd
      simp only [Rep] at rv
      obtain ⟨a, vs, rfl, c1, c2⟩ := rv
      exact .inl ⟨a, rfl, ⟨vs, SqL.of (R1.gh _ _ c1)⟩, h2.ret R1 _ (walk_seq c2 (fun H e => SqL.of (e _ _ c1)) walk_list)⟩
    | scr ns =>
      cases hd
      simp only [Rep] at rv
      obtain ⟨a, rfl, c1⟩ := rv
      exact .inl ⟨a, rfl, ⟨_, ex_l R1.gh c1⟩, h2.ret R1 _ (walk_seq repL_ints (fun H e => ex_l e c1) walk_list)⟩
    | tup xs =>
      cases hd
      simp only [Rep] at rv
      obtain ⟨a, vs, rfl, c1, c2⟩ := rv
      exact .inr (.inl ⟨a, rfl, ⟨vs, ex_t R1.gh c1⟩, h2.ret R1 _ (walk_seq c2 (fun H e => ex_t e c1) walk_tup)⟩)
    | str z =>
      cases hd
      simp only [Rep] at rv
      subst rv
      exact .inr (.inr ⟨z, rfl, h2.ret R1 _ walk_signs⟩)
    | _ => cases hd)
def enumD (ds : List D) : List D := ds.mapIdx fun i d => .tup [.int (i : Nat), d]
theorem enumD_get {ds : List D} {i : Nat} {e : D} (h : (enumD ds)[i]? = some e) : ∃ d, ds[i]? = some d ∧ e = .tup [.int (i : Nat), d] := by
  simp only [enumD, List.getElem?_mapIdx] at h
  cases hd : ds[i]? with
  | none => rw [hd] at h; cases h
  | some d => rw [hd] at h; cases h; exact ⟨d, rfl, rfl⟩
theorem pair_new {G1 H1 : Hp} {T : Addr} {i : Nat} {d : D} {x : V} (e : Ex G1 H1) (hT : H1 T = none) (r : Rep u G1 d x) : ∃ G', Ext G1 H1 G' (upd H1 T (.tup [.int (i : Nat), x])) ∧ Rep u G' (.tup [.int (i : Nat), d]) (.ref T) := by
  refine ⟨upd G1 T (.tup [.int (i : Nat), x]), Ext.new e hT _, ?_⟩
  simp only [Rep]
  exact ⟨T, _, rfl, upd_same, .int i, [x], rfl, by simp only [Rep], x, [], rfl, r.mono (Ext.new e hT _).g, by simp only [RepL]⟩
theorem walk_enumL {a : Addr} {ds : List D} {vs : List V} (c1 : G a = some (.lst vs)) (r : RepL u G ds vs) : WalkD u (Ite u.K a) (enumD ds) G :=
  ⟨fun i G1 H hi e1 e2 => ⟨vs, vs[i]'(by rw [← r.length]; simpa [enumD] using hi), SqL.of (e2 _ _ (e1 _ _ c1)), by simp⟩, fun G1 H e1 e2 => ⟨vs, SqL.of (e2 _ _ (e1 _ _ c1)), by simp [enumD, r.length]⟩, fun i G1 H x H' d hd e1 e2 hy => by
    obtain ⟨T, y, hx, hT, hH, hy⟩ := (hy : ∃ T y, x = .ref T ∧ H T = none ∧ H' = upd H T (.tup [.int (i : Nat), y]) ∧ ∀ xs, SqL u.K H a xs → xs[i]? = some y)
    subst hx hH
    obtain ⟨d', h1, h2⟩ := enumD_get hd
    subst h2
    obtain ⟨v, hv, rv⟩ := r.get h1
    rw [hy vs (SqL.of (e2 _ _ (e1 _ _ c1)))] at hv
    cases hv
    exact pair_new e2 hT (rv.mono e1)⟩
theorem walk_enumT {a : Addr} {ds : List D} {vs : List V} (c1 : G a = some (.tup vs)) (r : RepL u G ds vs) : WalkD u (MH.IteT u.K a) (enumD ds) G :=
  ⟨fun i G1 H hi e1 e2 => ⟨vs, vs[i]'(by rw [← r.length]; simpa [enumD] using hi), ex_t (e1.trans e2) c1, by simp⟩, fun G1 H e1 e2 => ⟨vs, ex_t (e1.trans e2) c1, by simp [enumD, r.length]⟩, fun i G1 H x H' d hd e1 e2 hy => by
    obtain ⟨T, y, hx, hT, hH, hy⟩ := (hy : ∃ T y, x = .ref T ∧ H T = none ∧ H' = upd H T (.tup [.int (i : Nat), y]) ∧ ∀ xs, SqT u.K H a xs → xs[i]? = some y)
    subst hx hH
    obtain ⟨d', h1, h2⟩ := enumD_get hd
    subst h2
    obtain ⟨v, hv, rv⟩ := r.get h1
    rw [hy vs (ex_t (e1.trans e2) c1)] at hv
    cases hv
    exact pair_new e2 hT (rv.mono e1)⟩
theorem walk_enumS {z : Str} : WalkD u (MH.IteS z) (enumD (signsD z)) G :=
  ⟨fun i G1 H hi _ _ => by show i < z.cps.size; simpa [enumD, signsD] using hi, fun G1 H _ _ => by show z.cps.size = _; simp [enumD, signsD], fun i G1 H x H' d hd e1 e2 hy => by
    obtain ⟨T, c, hx, hT, hH, hc⟩ := (hy : ∃ T c, x = .ref T ∧ H T = none ∧ H' = upd H T (.tup [.int (i : Nat), .str ⟨#[c]⟩]) ∧ z.cps[i]? = some c)
    subst hx hH
    obtain ⟨d', h1, h2⟩ := enumD_get hd
    subst h2
    simp only [signsD, List.getElem?_map, Array.getElem?_toList, hc, Option.map_some, Option.some.injEq] at h1
    subst h1
    exact pair_new e2 hT (by simp only [Rep])⟩
def enF (f : Env → Out D) : Env → Out (List D) := fun ε => (f ε).bnd fun d ε1 => match d with
  | .lst ds => .ok (enumD ds) ε1
  | .tup ds => .ok (enumD ds) ε1
  | .str z => .ok (enumD (signsD z)) ε1
  | _ => .bad
theorem ri_enum {te : TE} {f : Env → Out D} (h : RzE u W te f) : RzI u W (MH.iEnumA u.K (tCons te tNil)) (enF f) := fun B G0 G H σ ε Q R q =>
  h _ _ _ _ _ _ _ R (q.bnd.mono fun d ε1 G1 H1 e1 R1 h1 v rv => by
    cases d with
    | lst xs =>
      simp only [Rep] at rv
      obtain ⟨a, vs, rfl, c1, c2⟩ := rv
      exact .inl ⟨a, vs, rfl, SqL.of (R1.gh _ _ c1), h1.ret R1 _ (walk_enumL c1 c2)⟩
    | tup xs =>
      simp only [Rep] at rv
      obtain ⟨a, vs, rfl, c1, c2⟩ := rv
      exact .inr (.inl ⟨a, vs, rfl, ex_t R1.gh c1, h1.ret R1 _ (walk_enumT c1 c2)⟩)
    | str z =>
      simp only [Rep] at rv
      subst rv
      exact .inr (.inr ⟨z, rfl, h1.ret R1 _ walk_enumS⟩)
    | _ => exact h1.elim)
def rangeD (lo : Int) (n : Nat) : List D := (List.range n).map fun (i : Nat) => D.int (lo + (i : Int))
def okR (n : Int) : Bool := decide (-(2 ^ 62) ≤ n) && decide (n < 2 ^ 62)
def rng1F (f : Env → Out D) : Env → Out (List D) := fun ε => (f ε).bnd fun d ε1 => match d with
  | .int n => if okR n = true then .ok (rangeD 0 n.toNat) ε1 else .bad
  | _ => .bad
def rng2F (f g : Env → Out D) : Env → Out (List D) := fun ε => (f ε).bnd fun d ε1 => (g ε1).bnd fun e ε2 => match d, e with
  | .int i, .int j => if okR i = true ∧ okR j = true then .ok (rangeD i (j - i).toNat) ε2 else .bad
  | _, _ => .bad
def starF (f : Env → Out D) (fr : Env → Out (List D)) : Env → Out (List D) := fun ε => (f ε).bnd fun d ε1 => match d with
  | .lst ds => (fr ε1).bnd fun xs ε2 => .ok (ds ++ xs) ε2
  | .tup ds => (fr ε1).bnd fun xs ε2 => .ok (ds ++ xs) ε2
  | .str z => if z.cps.size ≤ 100000 then (fr ε1).bnd fun xs ε2 => .ok (signsD z ++ xs) ε2 else .bad
  | _ => .bad
theorem repL_signs {z : Str} : RepL u G (signsD z) (MH.signs z) := by
  unfold signsD MH.signs
  generalize z.cps.toList = l
  induction l with
  | nil => simp [RepL]
  | cons c l ih => exact ⟨_, _, rfl, by simp only [Rep], ih⟩
theorem rz_star {te : TE} {t : TA} {f : Env → Out D} {fr : Env → Out (List D)} (h : RzE u W te f) (hr : RzA u W t fr) : RzA u W (MH.tStarA u.K te t) (starF f fr) := fun B G0 G H σ ε Q R q =>
  h _ _ _ _ _ _ _ R (q.bnd.mono fun d ε1 G1 H1 e1 R1 h1 v rv => by
    cases d with
    | lst xs =>
      simp only [Rep] at rv
      obtain ⟨a, vs, rfl, c1, c2⟩ := rv
      exact .inl ⟨a, vs, rfl, .inr (SqL.of (R1.gh _ _ c1)), hr _ _ _ _ _ _ _ R1 (h1.bnd.mono fun ys ε2 G2 H2 e2 R2 h2 ws rws => h2.ret R2 _ ((RepL.mono e2 _ c2).append rws))⟩
    | tup xs =>
      simp only [Rep] at rv
      obtain ⟨a, vs, rfl, c1, c2⟩ := rv
      exact .inl ⟨a, vs, rfl, .inl (ex_t R1.gh c1), hr _ _ _ _ _ _ _ R1 (h1.bnd.mono fun ys ε2 G2 H2 e2 R2 h2 ws rws => h2.ret R2 _ ((RepL.mono e2 _ c2).append rws))⟩
    | str z =>
      simp only [Rep] at rv
      subst rv
      by_cases hz : z.cps.size ≤ 100000
      · simp only [if_pos hz] at h1
        exact .inr ⟨z, rfl, sz_of hz, hr _ _ _ _ _ _ _ R1 (h1.bnd.mono fun ys ε2 G2 H2 e2 R2 h2 ws rws => h2.ret R2 _ (repL_signs.append rws))⟩
      · simp only [if_neg hz] at h1; exact h1.elim
    | _ => exact h1.elim)
end
end ML
end
section
set_option Elab.async false
set_option linter.all false
set_option maxRecDepth 100000
set_option maxHeartbeats 2000000
set_option autoImplicit false
namespace MH
open PySem PySem.Spec PyProof.Rows L2
section
variable {X : Cx}
def rAddA (K : PySem.W.Frag) : R2 := fun x y H Q => rI0 (fun i j => .int (i + j)) x y H Q ∨ (∃ i j, x = .str i ∧ y = .str j ∧ i.length + j.length ≤ sizeLine ∧ Q (.str (i ++ j)) H) ∨ rCatA K x y H Q ∨ rCat x y H Q
theorem op_addA : OpR X (binaryOp .Add) (rAddA X.K) := op_add.or (op_add_str.or (op_catA.or op_cat))
def rRepS : R2 := fun x y H Q => ∃ (z : Str) (n : Int), x = .str z ∧ y = .int n ∧ -1000 ≤ n ∧ n ≤ 1000 ∧ z.length ≤ 1000 ∧ Q (.str ⟨(List.replicate n.toNat z.cps).foldl (· ++ ·) #[]⟩) H
theorem rep_size (z : Array Nat) : ∀ (n : Nat) (a : Array Nat), ((List.replicate n z).foldl (· ++ ·) a).size = a.size + n * z.size
  | 0, a => by simp
  | n + 1, a => by rw [List.replicate_succ, List.foldl_cons, rep_size z n (a ++ z), Array.size_append, Nat.succ_mul]; omega
theorem rep_nil : ∀ (n : Nat), (List.replicate n (#[] : Array Nat)).foldl (· ++ ·) #[] = #[]
  | 0 => rfl
  | n + 1 => by rw [List.replicate_succ, List.foldl_cons]; exact rep_nil n
theorem op_repS : OpR X (binaryOp .Mult) rRepS := by
  intro pins s σ H x y v u Q I rx ry h
  obtain ⟨z, n, rfl, rfl, h2, h3, h5, q⟩ := h
  obtain ⟨t, rfl⟩ := rx
  obtain ⟨t', rfl⟩ := ry
  have hz : z.length * n.toNat ≤ 1000000 := by
    have : n.toNat ≤ 1000 := by omega
    calc z.length * n.toNat ≤ 1000 * 1000 := Nat.mul_le_mul h5 this
      _ = 1000000 := rfl
  refine PySem.P.mul_str ?_ ?_ ?_ ?_
  · rw [decide_eq_false (by omega), decide_eq_false (by omega)]; rfl
  · intro h1 _ hc
    have h9 : (1000 : Int) < (2 ^ 63 - 1) / n := by
      rw [Int.lt_iff_add_one_le, Int.le_ediv_iff_mul_le (by omega)]
      omega
    omega
  · intro _ _
    unfold Builtin.Str.tooLong
    rw [sizeLine_eq]
    simp; omega
  · by_cases h0 : n < 1
    · rw [if_pos h0]
      have e : n.toNat = 0 := by omega
      rw [e] at q
      exact ⟨by decide, .str _, H, I.tok _, ⟨_, rfl⟩, q⟩
    · rw [if_neg h0]
      by_cases h1 : (n == 1 || z.length == 0) = true
      · rw [if_pos h1]
        have e : (⟨(List.replicate n.toNat z.cps).foldl (· ++ ·) #[]⟩ : Str) = z := by
          simp only [Bool.or_eq_true, beq_iff_eq] at h1
          rcases h1 with h1 | h1
          · subst h1
            simp
          · have hz : z.cps = #[] := Array.eq_empty_of_size_eq_zero h1
            rw [hz, rep_nil]
            cases z
            simp only at hz
            rw [hz]
        rw [e] at q
        exact ⟨.str z, H, I, ⟨_, rfl⟩, q⟩
      · rw [if_neg h1]
        exact ⟨by
          show (⟨(List.replicate n.toNat z.cps).foldl (· ++ ·) #[]⟩ : Str).length ≤ sizeLine
          show ((List.replicate n.toNat z.cps).foldl (· ++ ·) #[]).size ≤ sizeLine
          rw [rep_size, sizeLine_eq]
          have : z.cps.size = z.length := rfl
          rw [this, Nat.mul_comm]
          simp; omega, .str _, H, I.tok _, ⟨_, rfl⟩, q⟩
theorem tuple_mulS (l : Addr) (items : Array Value) (n : Nat) (dd : Option Addr) (sl : Array (Option Value)) (x : Int) (u : Tok) (c0 : (decide (x < -(2 ^ 63)) || decide (x ≥ 2 ^ 63)) = false) (c1 : (items.isEmpty || x == 1) = true) :
    Meets (Builtin.«tuple.__mul__» ⟨[.ref l, .int x u], []⟩) (fun _ R s => s.heap.get? l = some { cls := .type "tuple", dict := dd, data := .seq items n, slots := sl } ∧ R (.ok (.ret (Value.ref l))) s) :=
  .of_wp fun prog w A R s h => by
    obtain ⟨hp, g, d, tk, os⟩ := s
    obtain ⟨hl, h⟩ := h
    have f1 := AutoSeq1.idx_int
    wp_walk using wpAny_loadPart' hl
    repeat (first
      | (refine wpAny_ite_false (decide_eq_false (by rw [c0]; exact Bool.false_ne_true)) ?_; wp_walk using wpAny_loadPart' hl)
      | (refine wpAny_ite_true (decide_eq_true c1) ?_; wp_walk using wpAny_loadPart' hl))
    exact ⟨_, rfl, h⟩
theorem tuple_mul0 (l : Addr) (items : Array Value) (n : Nat) (dd : Option Addr) (sl : Array (Option Value)) (x : Int) (u : Tok) (c0 : (decide (x < -(2 ^ 63)) || decide (x ≥ 2 ^ 63)) = false) (c1 : (items.isEmpty || x == 1) = false) (c2 : (decide (x ≤ 0) || items.isEmpty) = true) :
    Meets (Builtin.«tuple.__mul__» ⟨[.ref l, .int x u], []⟩) (fun _ R s => s.heap.get? l = some { cls := .type "tuple", dict := dd, data := .seq items n, slots := sl } ∧
      R (.ok (.ret (Value.ref s.heap.objs.size))) { s with heap := s.heap.push { cls := Value.type "tuple", data := Data.seq #[] }, toks := s.toks }) :=
  .of_wp fun prog w A R s h => by
    obtain ⟨hp, g, d, tk, os⟩ := s
    obtain ⟨hl, h⟩ := h
    have f1 := AutoSeq1.idx_int
    wp_walk using wpAny_loadPart' hl
    repeat (first
      | (refine wpAny_ite_false (decide_eq_false (by rw [c0]; exact Bool.false_ne_true)) ?_; wp_walk using wpAny_loadPart' hl)
      | (refine wpAny_ite_false (decide_eq_false (by rw [c1]; exact Bool.false_ne_true)) ?_; wp_walk using wpAny_loadPart' hl)
      | (refine wpAny_ite_true (decide_eq_true c2) ?_; wp_walk using wpAny_loadPart' hl))
    exact ⟨_, rfl, h⟩
def rRepT1 (K : PySem.W.Frag) : R2 := fun x y H Q => ∃ l k xs, x = .ref l ∧ y = .int k ∧ SqT K H l xs ∧ (xs = [] ∨ k = 1) ∧ -1000 ≤ k ∧ k ≤ 1000 ∧ Q (.ref l) H
theorem op_repT1 : OpR X (binaryOp .Mult) (rRepT1 X.K) := by
  intro pins s σ H x y v u Q I rx ry h
  obtain ⟨l, k, xs, rfl, rfl, hT, hne, h1, h2, q⟩ := h
  cases rx
  obtain ⟨t, rfl⟩ := ry
  obtain ⟨its, r, ⟨⟨cls, dd, data, sl⟩, ho, hc, n, hd⟩, hs⟩ := I.tuple hT
  simp only at hc hd
  subst hc hd
  have hle : its.length = xs.length := r.length.symm
  have c0 : (decide (k < -(2 ^ 63)) || decide (k ≥ 2 ^ 63)) = false := by
    rw [decide_eq_false (by omega), decide_eq_false (by omega)] <;> rfl
  have c1 : (its.toArray.isEmpty || k == 1) = true := by
    rcases hne with rfl | rfl
    · have : its = [] := List.eq_nil_of_length_eq_zero hle
      subst this; rfl
    · simp
  exact wpAny_binaryOp_repeat_ref (T := "tuple") (U := "int") (by decide) ⟨_, ho, rfl⟩ (fun s' => typeIs_int s' k t) noFill_tuple_mul F.fills_int_mul F.slot_int_rmul repeat_tuple F.slot_int_index.lookup
    (call_meets F.slot_int_rmul (typeIs_int s k t) F.entry_int_rmul (F.args_int_rmul_2 _ _) (int_rmul_tuple k t l its.toArray n dd sl)
      ⟨ho, rfl, ⟨_, ho, rfl⟩, call_meets F.slot_tuple_mul ⟨_, ho, rfl⟩ F.entry_tuple_mul (F.args_tuple_mul_2 _ _) (tuple_mulS l its.toArray n dd sl k t c0 c1) ⟨ho, .ref l, H, I, rfl, q⟩⟩)
def rRepT0 (K : PySem.W.Frag) : R2 := fun x y H Q => ∃ l k xs, x = .ref l ∧ y = .int k ∧ SqT K H l xs ∧ xs ≠ [] ∧ -1000 ≤ k ∧ k ≤ 0 ∧ ∀ p, H p = none → Q (.ref p) (upd H p (.tup []))
theorem op_repT0 : OpR X (binaryOp .Mult) (rRepT0 X.K) := by
  intro pins s σ H x y v u Q I rx ry h
  obtain ⟨l, k, xs, rfl, rfl, hT, hne, h1, h2, q⟩ := h
  cases rx
  obtain ⟨t, rfl⟩ := ry
  obtain ⟨its, r, ⟨⟨cls, dd, data, sl⟩, ho, hc, n, hd⟩, hs⟩ := I.tuple hT
  simp only at hc hd
  subst hc hd
  have hle : its.length = xs.length := r.length.symm
  have hn : its ≠ [] := fun e => hne (by
    rw [e] at hle
    exact List.eq_nil_of_length_eq_zero hle.symm)
  have hi : its.toArray.isEmpty = false := by
    cases its with
    | nil => exact absurd rfl hn
    | cons a b => rfl
  have c0 : (decide (k < -(2 ^ 63)) || decide (k ≥ 2 ^ 63)) = false := by
    rw [decide_eq_false (by omega), decide_eq_false (by omega)] <;> rfl
  have c1 : (its.toArray.isEmpty || k == 1) = false := by
    rw [hi, Bool.false_or]
    exact beq_eq_false_iff_ne.mpr (by omega)
  have c2 : (decide (k ≤ 0) || its.toArray.isEmpty) = true := by
    rw [decide_eq_true h2]; rfl
  refine wpAny_binaryOp_repeat_ref (T := "tuple") (U := "int") (by decide) ⟨_, ho, rfl⟩ (fun s' => typeIs_int s' k t) noFill_tuple_mul F.fills_int_mul F.slot_int_rmul repeat_tuple F.slot_int_index.lookup
    (call_meets F.slot_int_rmul (typeIs_int s k t) F.entry_int_rmul (F.args_int_rmul_2 _ _) (int_rmul_tuple k t l its.toArray n dd sl)
      ⟨ho, rfl, ⟨_, ho, rfl⟩, call_meets F.slot_tuple_mul ⟨_, ho, rfl⟩ F.entry_tuple_mul (F.args_tuple_mul_2 _ _) (tuple_mul0 l its.toArray n dd sl k t c0 c1 c2) ⟨ho, ?_⟩⟩)
  refine ⟨.ref s.heap.objs.size, _, I.laid (t' := s.toks) (o := .tup []) (fun b ob q => Heap.get?_push_of_some _ q) (Nat.le_refl _) ?_, rfl, q _ (I.hok.fresh (Nat.le_refl _))⟩
  exact ⟨by simp, [], .nil, IsTup.new _ _⟩
def rMulA (K : PySem.W.Frag) : R2 := fun x y H Q => rI CMul (fun i j => .int (i * j)) x y H Q ∨ rRepT K x y H Q ∨ rRep x y H Q ∨ rRepS x y H Q ∨ rRepT1 K x y H Q ∨ rRepT0 K x y H Q
theorem op_mulA : OpR X (binaryOp .Mult) (rMulA X.K) := op_mul.or (op_repT.or (op_rep.or (op_repS.or (op_repT1.or op_repT0))))
def rInT (K : PySem.W.Frag) : R2 := fun x y H Q => ∃ d ds, Dp K H x d ∧ Dp K H y (.tuple ds) ∧ SeqAt.shaped d = true ∧ SeqAt.shaped (.tuple ds) = true ∧ Q (.bl (ds.any fun z => PyData.eqv z d)) H
def rNotInT (K : PySem.W.Frag) : R2 := fun x y H Q => ∃ d ds, Dp K H x d ∧ Dp K H y (.tuple ds) ∧ SeqAt.shaped d = true ∧ SeqAt.shaped (.tuple ds) = true ∧ Q (.bl (!ds.any fun z => PyData.eqv z d)) H
theorem op_inT (hu : X.A.units + 65 < cLine) : OpR X (compareOp .In) (rInT X.K) := by
  intro pins s σ H x y v u Q I rx ry h
  obtain ⟨d, ds, hd, he, sd, se, q⟩ := h
  obtain ⟨as, r1⟩ := Dp.reads I d x v hd rx
  obtain ⟨bs, r2⟩ := Dp.reads I (.tuple ds) y u he ry
  exact SeqAt.in_tuple_data r2 r1 (PyData.plainAll_of_canLay0 _ (SeqAt.canLay_of_shaped se)) (PyData.plain_of_canLay0 _ (SeqAt.canLay_of_shaped sd)) (room_in_shaped sd hu) ⟨.bl _, H, I, rfl, q⟩
theorem op_notInT (hu : X.A.units + 65 < cLine) : OpR X (compareOp .NotIn) (rNotInT X.K) := by
  intro pins s σ H x y v u Q I rx ry h
  obtain ⟨d, ds, hd, he, sd, se, q⟩ := h
  obtain ⟨as, r1⟩ := Dp.reads I d x v hd rx
  obtain ⟨bs, r2⟩ := Dp.reads I (.tuple ds) y u he ry
  exact SeqAt.notIn_tuple_data r2 r1 (PyData.plainAll_of_canLay0 _ (SeqAt.canLay_of_shaped se)) (PyData.plain_of_canLay0 _ (SeqAt.canLay_of_shaped sd)) (room_in_shaped sd hu) ⟨.bl _, H, I, rfl, q⟩
def rInA (K : PySem.W.Frag) : R2 := fun x y H Q => (∃ i j, x = .str i ∧ y = .str j ∧ Q (.bl (!(Builtin.Str.occurrences j i 0 j.length 1).isEmpty)) H) ∨ rIn K false x y H Q ∨ rInD K x y H Q ∨ rInT K x y H Q
def rNotInA (K : PySem.W.Frag) : R2 := fun x y H Q => (∃ i j, x = .str i ∧ y = .str j ∧ Q (.bl (!(!(Builtin.Str.occurrences j i 0 j.length 1).isEmpty))) H) ∨ rIn K true x y H Q ∨ rNotInD K x y H Q ∨ rNotInT K x y H Q
theorem op_inA {k : Nat} (hr : Room k X.A) : OpR X (compareOp .In) (rInA X.K) := op_in_str.or (op_in_seq.or ((op_inD (by have := hr.un; omega)).or (op_inT (by have := hr.un; omega))))
theorem op_notInA {k : Nat} (hr : Room k X.A) : OpR X (compareOp .NotIn) (rNotInA X.K) := op_notin_str.or (op_notIn_seq.or ((op_notInD (by have := hr.un; omega)).or (op_notInT (by have := hr.un; omega))))
def rSlAll (K : PySem.W.Frag) : V → Option Int → Option Int → Hp → VK → Prop := fun x lo hi H Q => rSlL K x lo hi H Q ∨ rSlA K x lo hi H Q ∨ rSlS x lo hi H Q
theorem sl_all : SlR X (rSlAll X.K) := sl_list.or (sl_tupA.or sl_str)
end
end MH
namespace ML
open PySem PySem.Spec PyProof.Rows L2
section
variable {u : Uv} {W : WX} {b : List Nat} {B G0 G G' H H' : Hp} {σ : L2.St} {ε : Env}
abbrev Kon (u : Uv) (z : D) (G H : Hp) (Q : VK) : Prop := ∀ v G' H', Ex G G' → Ex H H' → Ex G' H' → Nw H G G' → Rep u G' z v → Q v H'
theorem Kon.ret {z : D} {Q : VK} {v : V} (k : Kon u z G H Q) (e : Ex G H) (r : Rep u G z v) : Q v H := k v G H (Ex.refl _) (Ex.refl _) e Nw.refl r
theorem Kon.new {z : D} {Q : VK} {v : V} {p : Addr} {o : HO} (k : Kon u z G H Q) (e : Ex G H) (hp : H p = none) (r : Rep u (upd G p o) z v) : Q v (upd H p o) :=
  k v (upd G p o) (upd H p o) (Ex.upd (e.free hp)) (Ex.upd hp) e.both (Nw.of fun _ _ h => upd_ne (ne_of_none h hp)) r
theorem rep_int {i : Int} {v : V} : Rep u G (.int i) v ↔ v = .int i := by simp only [Rep]
theorem rep_str {i : Str} {v : V} : Rep u G (.str i) v ↔ v = .str i := by simp only [Rep]
theorem rep_bl {i : Bool} {v : V} : Rep u G (.bl i) v ↔ v = .bl i := by simp only [Rep]
theorem rep_non {v : V} : Rep u G .non v ↔ v = .non := by simp only [Rep]
theorem rep_tup {ds : List D} {v : V} : Rep u G (.tup ds) v ↔ ∃ a vs, v = .ref a ∧ G a = some (.tup vs) ∧ RepL u G ds vs := by simp only [Rep]
theorem rep_lst {ds : List D} {v : V} : Rep u G (.lst ds) v ↔ ∃ a vs, v = .ref a ∧ G a = some (.lst vs) ∧ RepL u G ds vs := by simp only [Rep]
theorem rep_scr {ns : List Int} {v : V} : Rep u G (.scr ns) v ↔ ∃ a, v = .ref a ∧ SqL u.K G a (ns.map V.int) := by simp only [Rep]
def addD : D → D → Option D
  | .int i, .int j => some (.int (i + j))
  | .str a, .str b => if a.length + b.length ≤ 100000 then some (.str (a ++ b)) else none
  | .tup xs, .tup ys => if xs.length + ys.length ≤ 100000 then some (.tup (xs ++ ys)) else none
  | .lst xs, .lst ys => if xs.length + ys.length ≤ 100000 then some (.lst (xs ++ ys)) else none
  | _, _ => none
theorem rr_add : RzR u (MH.rAddA u.K) addD := fun x y d e z G H Q rx ry hz eg k => by
  cases d <;> cases e <;> simp only [addD] at hz <;> first | (cases hz; done) | skip
  · cases hz
    exact .inl ⟨_, _, rep_int.mp rx, rep_int.mp ry, Kon.ret k eg (rep_int.mpr rfl)⟩
  · split at hz
    · cases hz
      exact .inr (.inl ⟨_, _, rep_str.mp rx, rep_str.mp ry, sz_of (by assumption), Kon.ret k eg (rep_str.mpr rfl)⟩)
    · cases hz
  · rename_i xs ys
    split at hz
    · cases hz
      rename_i hl
      obtain ⟨a, vs, rfl, a1, a2⟩ := rep_tup.mp rx
      obtain ⟨b, ws, rfl, b1, b2⟩ := rep_tup.mp ry
      refine .inr (.inr (.inl ⟨a, b, vs, ws, rfl, rfl, ex_t eg a1, ex_t eg b1, sz_of (by rw [← a2.length, ← b2.length]; exact hl), fun h0 => ?_, fun h1 h0 => ?_, fun h1 h2 p hp => ?_⟩))
      · subst h0
        have : xs = [] := List.eq_nil_of_length_eq_zero a2.length
        subst this
        exact Kon.ret k eg (rep_tup.mpr ⟨b, ws, rfl, b1, b2⟩)
      · subst h0
        have : ys = [] := List.eq_nil_of_length_eq_zero b2.length
        subst this
        exact Kon.ret k eg (rep_tup.mpr ⟨a, vs, rfl, a1, by rw [List.append_nil]; exact a2⟩)
      · exact Kon.new k eg hp (rep_tup.mpr ⟨p, vs ++ ws, rfl, upd_same, (RepL.mono (Ex.upd (eg.free hp)) _ a2).append (RepL.mono (Ex.upd (eg.free hp)) _ b2)⟩)
    · cases hz
  · rename_i xs ys
    split at hz
    · cases hz
      rename_i hl
      obtain ⟨a, vs, rfl, a1, a2⟩ := rep_lst.mp rx
      obtain ⟨b, ws, rfl, b1, b2⟩ := rep_lst.mp ry
      refine .inr (.inr (.inr ⟨a, b, vs, ws, rfl, rfl, eg _ _ a1, eg _ _ b1, sz_of (by rw [← a2.length, ← b2.length]; exact hl), fun p hp => ?_⟩))
      exact Kon.new k eg hp (rep_lst.mpr ⟨p, vs ++ ws, rfl, upd_same, (RepL.mono (Ex.upd (eg.free hp)) _ a2).append (RepL.mono (Ex.upd (eg.free hp)) _ b2)⟩)
    · cases hz
def intOp (C : Int → Int → Bool) (f : Int → Int → D) : D → D → Option D
  | .int i, .int j => if C i j = true then some (f i j) else none
  | _, _ => none
theorem rr_int0 {g : Int → Int → V} {f : Int → Int → D} (h : ∀ i j G, Rep u G (f i j) (g i j)) : RzR u (rI0 g) (intOp (fun _ _ => true) f) := fun x y d e z G H Q rx ry hz eg k => by
  cases d <;> cases e <;> simp only [intOp] at hz <;> first | (cases hz; done) | skip
  simp only [if_true] at hz
  cases hz
  exact ⟨_, _, rep_int.mp rx, rep_int.mp ry, Kon.ret k eg (h _ _ _)⟩
theorem rr_intC {Cp : Int → Int → Prop} {C : Int → Int → Bool} {g : Int → Int → V} {f : Int → Int → D} (hC : ∀ i j, C i j = true → Cp i j) (h : ∀ i j G, Rep u G (f i j) (g i j)) : RzR u (rI Cp g) (intOp C f) := fun x y d e z G H Q rx ry hz eg k => by
  cases d <;> cases e <;> simp only [intOp] at hz <;> first | (cases hz; done) | skip
  split at hz
  · cases hz
    exact ⟨_, _, rep_int.mp rx, rep_int.mp ry, hC _ _ (by assumption), Kon.ret k eg (h _ _ _)⟩
  · cases hz
def subD : D → D → Option D := intOp (fun _ _ => true) fun i j => .int (i - j)
theorem rr_sub : RzR u (rI0 fun i j => .int (i - j)) subD := rr_int0 fun _ _ _ => rep_int.mpr rfl
def fdivD : D → D → Option D := intOp (fun _ j => decide (0 < j) && decide (j < 1073741824)) fun i j => .int (i / j)
theorem rr_fdiv : RzR u (rI CDiv fun i j => .int (i / j)) fdivD := rr_intC (fun i j h => by simpa [CDiv] using h) fun _ _ _ => rep_int.mpr rfl
def modD : D → D → Option D := intOp (fun _ j => decide (0 < j)) fun i j => .int (i % j)
theorem rr_mod : RzR u (rI (fun _ j => 0 < j) fun i j => .int (i % j)) modD := rr_intC (fun i j h => by simpa using h) fun _ _ _ => rep_int.mpr rfl
def powD : D → D → Option D := intOp (fun i j => decide (0 ≤ j) && (decide (j ≤ 1000) && decide (i.natAbs < 1000))) fun i j => .int (i ^ j.toNat)
theorem rr_pow : RzR u (rI CPow fun i j => .int (i ^ j.toNat)) powD := rr_intC (fun i j h => by
  simp only [Bool.and_eq_true, decide_eq_true_eq] at h
  exact ⟨h.1, by omega, Nat.lt_trans h.2.2 (by decide)⟩) fun _ _ _ => rep_int.mpr rfl
def negD : D → Option D
  | .int i => some (.int (-i))
  | _ => none
theorem ru_neg : RzU u (rU fun i => .int (-i)) negD := fun x d z G H Q rx hz eg k => by
  cases d <;> simp only [negD] at hz <;> first | (cases hz; done) | skip
  cases hz
  exact ⟨_, rep_int.mp rx, Kon.ret k eg (rep_int.mpr rfl)⟩
theorem repL_rep {xs : List D} {vs : List V} (r : RepL u G xs vs) : ∀ n : Nat, RepL u G (List.replicate n xs).flatten (List.replicate n vs).flatten
  | 0 => by simp [RepL]
  | n + 1 => by simp only [List.replicate_succ, List.flatten_cons]; exact r.append (repL_rep r n)
def mulD : D → D → Option D
  | .int i, .int j => if (decide (i.natAbs < 18446744073709551616) || decide (j.natAbs < 18446744073709551616)) = true then some (.int (i * j)) else none
  | .tup xs, .int n => if xs.length ≤ 1000 ∧ -1000 ≤ n ∧ n ≤ 1000 then some (.tup (List.replicate n.toNat xs).flatten) else none
  | .lst xs, .int n => if -1000 ≤ n ∧ n ≤ 100000 ∧ xs.length * n.toNat ≤ 100000 then some (.lst (List.replicate n.toNat xs).flatten) else none
  | .str z, .int n => if z.length ≤ 1000 ∧ -1000 ≤ n ∧ n ≤ 1000 then some (.str ⟨(List.replicate n.toNat z.cps).foldl (· ++ ·) #[]⟩) else none
  | _, _ => none
theorem rr_mul : RzR u (MH.rMulA u.K) mulD := fun x y d e z G H Q rx ry hz eg k => by
  cases d <;> cases e <;> simp only [mulD] at hz <;> first | (cases hz; done) | skip
  · split at hz
    · cases hz
      rename_i i j hc
      refine .inl ⟨_, _, rep_int.mp rx, rep_int.mp ry, ?_, Kon.ret k eg (rep_int.mpr rfl)⟩
      simp only [Bool.or_eq_true, decide_eq_true_eq] at hc
      rcases hc with hc | hc
      · exact .inl (by omega)
      · exact .inr (by omega)
    · cases hz
  · split at hz
    · cases hz
      rename_i zz n hc
      exact .inr (.inr (.inr (.inl ⟨zz, n, rep_str.mp rx, rep_int.mp ry, hc.2.1, hc.2.2, hc.1, Kon.ret k eg (rep_str.mpr rfl)⟩)))
    · cases hz
  · split at hz
    · cases hz
      rename_i xs n hc
      obtain ⟨a, vs, rfl, a1, a2⟩ := rep_tup.mp rx
      have hl := a2.length
      by_cases h1 : xs = [] ∨ n = 1
      · have e : (List.replicate n.toNat xs).flatten = xs := by
          rcases h1 with rfl | rfl
          · simp
          · simp
        rw [e] at k
        exact .inr (.inr (.inr (.inr (.inl ⟨a, n, vs, rfl, rep_int.mp ry, ex_t eg a1, by
          rcases h1 with rfl | h1
          · exact .inl (List.eq_nil_of_length_eq_zero hl.symm)
          · exact .inr h1, hc.2.1, hc.2.2, Kon.ret k eg rx⟩))))
      · have hv : vs ≠ [] := fun h => by
          rw [h] at hl
          exact h1 (.inl (List.eq_nil_of_length_eq_zero hl))
        by_cases h2 : 2 ≤ n
        · refine .inr (.inl ⟨a, n, vs, rfl, rep_int.mp ry, ex_t eg a1, hv, h2, hc.2.2, by omega, fun p hp => ?_⟩)
          exact Kon.new k eg hp (rep_tup.mpr ⟨p, _, rfl, upd_same, RepL.mono (Ex.upd (eg.free hp)) _ (repL_rep a2 _)⟩)
        · have hn : n ≤ 0 := by
            have : n ≠ 1 := fun q => h1 (.inr q)
            omega
          have e0 : n.toNat = 0 := by omega
          rw [e0] at k
          refine .inr (.inr (.inr (.inr (.inr ⟨a, n, vs, rfl, rep_int.mp ry, ex_t eg a1, hv, hc.2.1, hn, fun p hp => ?_⟩))))
          exact Kon.new k eg hp (rep_tup.mpr ⟨p, _, rfl, upd_same, by simp [RepL]⟩)
    · cases hz
  · split at hz
    · cases hz
      rename_i xs n hc
      obtain ⟨a, vs, rfl, a1, a2⟩ := rep_lst.mp rx
      have hl := a2.length
      refine .inr (.inr (.inl ⟨a, n, vs, rfl, rep_int.mp ry, eg _ _ a1, by omega, by omega, ?_, fun p hp => ?_⟩))
      · rw [sizeLine_eq, ← hl]; omega
      · exact Kon.new k eg hp (rep_lst.mpr ⟨p, _, rfl, upd_same, RepL.mono (Ex.upd (eg.free hp)) _ (repL_rep a2 _)⟩)
    · cases hz
def cmpD (f : Int → Int → Bool) : D → D → Option D := intOp (fun _ _ => true) fun i j => .bl (f i j)
theorem rr_lt : RzR u (rI0 fun i j => .bl (decide (i < j))) (cmpD fun i j => decide (i < j)) := rr_int0 fun _ _ _ => rep_bl.mpr rfl
theorem rr_le : RzR u (rI0 fun i j => .bl (decide (i ≤ j))) (cmpD fun i j => decide (i ≤ j)) := rr_int0 fun _ _ _ => rep_bl.mpr rfl
theorem rr_gt : RzR u (rI0 fun i j => .bl (decide (j < i))) (cmpD fun i j => decide (j < i)) := rr_int0 fun _ _ _ => rep_bl.mpr rfl
theorem rr_ge : RzR u (rI0 fun i j => .bl (decide (j ≤ i))) (cmpD fun i j => decide (j ≤ i)) := rr_int0 fun _ _ _ => rep_bl.mpr rfl
mutual
def toPy : D → PyData
  | .non => .none
  | .bl b => .bool b
  | .int i => .int i
  | .str s => .str s
  | .tup xs => .tuple (toPyL xs)
  | .lst xs => .list (toPyL xs)
  | .scr ns => .list (ns.map .int)
  | _ => .dict []
def toPyL : List D → List PyData
  | [] => []
  | x :: xs => toPy x :: toPyL xs
end
mutual
theorem rep_dp : ∀ (d : D) {v : V}, PyData.canLay0 (toPy d) = true → Rep u G d v → Ex G H → Dp u.K H v (toPy d)
  | .non, v, _, r, _ => by rw [rep_non.mp r]; exact .non
  | .bl b, v, _, r, _ => by rw [rep_bl.mp r]; exact .bl b
  | .int b, v, _, r, _ => by rw [rep_int.mp r]; exact .int b
  | .str b, v, _, r, _ => by rw [rep_str.mp r]; exact .str b
  | .tup xs, v, h, r, e => by
    obtain ⟨a, vs, rfl, a1, a2⟩ := rep_tup.mp r
    simp only [toPy, PyData.canLay0] at h ⊢
    exact .tup (ex_t e a1) (rep_dpL xs h a2 e)
  | .lst xs, v, h, r, e => by
    obtain ⟨a, vs, rfl, a1, a2⟩ := rep_lst.mp r
    simp only [toPy, PyData.canLay0] at h ⊢
    exact .lst (SqL.of (e _ _ a1)) (rep_dpL xs h a2 e)
  | .scr ns, v, h, r, e => by
    obtain ⟨a, rfl, a1⟩ := rep_scr.mp r
    simp only [toPy]
    refine .lst (ex_l e a1) ?_
    clear a1 r h
    induction ns with
    | nil => exact .nil
    | cons n ns ih => exact .cons (.int n) ih
  | .dk _ _, v, h, _, _ => by simp [toPy, PyData.canLay0] at h
  | .dt _ _, v, h, _, _ => by simp [toPy, PyData.canLay0] at h
  | .dn _ _, v, h, _, _ => by simp [toPy, PyData.canLay0] at h
  | .obj _ _ _, v, h, _, _ => by simp [toPy, PyData.canLay0] at h
theorem rep_dpL : ∀ (ds : List D) {vs : List V}, PyData.canLayAll0 (toPyL ds) = true → RepL u G ds vs → Ex G H → DpAll u.K H vs (toPyL ds)
  | [], vs, _, r, _ => by simp only [RepL] at r; subst r; exact .nil
  | d :: ds, vs, h, r, e => by
    simp only [RepL] at r
    obtain ⟨v, rr, rfl, r1, r2⟩ := r
    simp only [toPyL, PyData.canLayAll0, Bool.and_eq_true] at h ⊢
    exact .cons (rep_dp d h.1 r1 e) (rep_dpL ds h.2 r2 e)
end
def okPy (d : D) : Bool := SeqAt.shaped (toPy d)
def eqB (d e : D) : Bool := PyData.eqv (toPy d) (toPy e)
def eqD (d e : D) : Option D := if (okPy d && okPy e) = true then some (.bl (eqB d e)) else none
def neD (d e : D) : Option D := if (okPy d && okPy e) = true then some (.bl (!eqB d e)) else none
theorem rr_eq : RzR u (rEqD u.K) eqD := fun x y d e z G H Q rx ry hz eg k => by
  unfold eqD at hz
  split at hz
  · cases hz
    rename_i hc
    rw [Bool.and_eq_true] at hc
    exact ⟨toPy d, toPy e, rep_dp d (SeqAt.canLay_of_shaped hc.1) rx eg, rep_dp e (SeqAt.canLay_of_shaped hc.2) ry eg, hc.1, hc.2, Kon.ret k eg (rep_bl.mpr rfl)⟩
  · cases hz
theorem rr_ne : RzR u (rNeD u.K) neD := fun x y d e z G H Q rx ry hz eg k => by
  unfold neD at hz
  split at hz
  · cases hz
    rename_i hc
    rw [Bool.and_eq_true] at hc
    exact ⟨toPy d, toPy e, rep_dp d (SeqAt.canLay_of_shaped hc.1) rx eg, rep_dp e (SeqAt.canLay_of_shaped hc.2) ry eg, hc.1, hc.2, Kon.ret k eg (rep_bl.mpr rfl)⟩
  · cases hz
def subB (i j : Str) : Bool := !(Builtin.Str.occurrences j i 0 j.length 1).isEmpty
def flatD : D → Bool
  | .non => true | .bl _ => true | .int _ => true | .str _ => true | _ => false
theorem flat_of {d : D} {v : V} (h : flatD d = true) (r : Rep u G d v) : flatV v = true := by
  cases d with
  | non => rw [rep_non.mp r]; rfl
  | bl _ => rw [rep_bl.mp r]; rfl
  | int _ => rw [rep_int.mp r]; rfl
  | str _ => rw [rep_str.mp r]; rfl
  | _ => cases h
theorem eqV_of {d e : D} {v w : V} (h : flatD d = true) (h' : flatD e = true) (r : Rep u G d v) (r' : Rep u G e w) : eqV v w = eqB d e := by
  cases d <;> first | (cases h; done) | skip
  all_goals (cases e <;> first | (cases h'; done) | skip)
  all_goals (simp only [Rep] at r r'; subst r r'; simp [eqV, eqB, toPy, PyData.eqv])
theorem flats_of : ∀ {ds : List D} {vs : List V}, ds.all flatD = true → RepL u G ds vs → vs.all flatV = true
  | [], vs, _, r => by simp only [RepL] at r; subst r; rfl
  | d :: ds, vs, h, r => by
    simp only [RepL] at r
    obtain ⟨v, rr, rfl, r1, r2⟩ := r
    simp only [List.all_cons, Bool.and_eq_true] at h ⊢
    exact ⟨flat_of h.1 r1, flats_of h.2 r2⟩
theorem inV_of {e : D} {w : V} (h' : flatD e = true) (r' : Rep u G e w) : ∀ {ds : List D} {vs : List V}, ds.all flatD = true → RepL u G ds vs → inV w vs = ds.any fun d => eqB d e
  | [], vs, _, r => by simp only [RepL] at r; subst r; rfl
  | d :: ds, vs, h, r => by
    simp only [RepL] at r
    obtain ⟨v, rr, rfl, r1, r2⟩ := r
    simp only [List.all_cons, Bool.and_eq_true] at h
    have := inV_of h' r' h.2 r2
    simp only [inV, List.any_cons] at this ⊢
    rw [eqV_of h.1 h' r1 r', this]
theorem toPyL_any {e : D} : ∀ {ds : List D}, ((toPyL ds).any fun z => PyData.eqv z (toPy e)) = ds.any fun d => eqB d e
  | [] => rfl
  | d :: ds => by simp only [toPyL, List.any_cons, eqB, toPyL_any]
def inB : D → D → Option Bool
  | .str i, .str j => some (subB i j)
  | x, .tup ys => if (flatD x && ys.all flatD) = true then some (ys.any fun y => eqB y x) else if (okPy x && okPy (.tup ys)) = true then some (ys.any fun y => eqB y x) else none
  | x, .lst ys => if (okPy x && okPy (.lst ys)) = true then some (ys.any fun y => eqB y x) else none
  | _, _ => none
def inD (x y : D) : Option D := (inB x y).map .bl
def notInD (x y : D) : Option D := (inB x y).map fun b => .bl (!b)
theorem in_tup {x y : V} {d : D} {ys : List D} {c : Bool} (rx : Rep u G d x) (ry : Rep u G (.tup ys) y) (eg : Ex G H) (h : (if (flatD d && ys.all flatD) = true then some (ys.any fun y => eqB y d) else if (okPy d && okPy (.tup ys)) = true then some (ys.any fun y => eqB y d) else none) = some c) :
    (∃ p xs, y = .ref p ∧ (SqL u.K H p xs ∨ SqT u.K H p xs) ∧ flatV x = true ∧ xs.all flatV = true ∧ inV x xs = c) ∨
    ∃ p ds, Dp u.K H x p ∧ Dp u.K H y (.tuple ds) ∧ SeqAt.shaped p = true ∧ SeqAt.shaped (.tuple ds) = true ∧ (ds.any fun z => PyData.eqv z p) = c := by
  split at h
  · cases h
    rename_i hc
    rw [Bool.and_eq_true] at hc
    obtain ⟨a, vs, rfl, a1, a2⟩ := rep_tup.mp ry
    exact .inl ⟨a, vs, rfl, .inr (ex_t eg a1), flat_of hc.1 rx, flats_of hc.2 a2, inV_of hc.1 rx hc.2 a2⟩
  · split at h
    · cases h
      rename_i hc
      rw [Bool.and_eq_true] at hc
      refine .inr ⟨toPy d, toPyL ys, rep_dp d (SeqAt.canLay_of_shaped hc.1) rx eg, ?_, hc.1, ?_, toPyL_any⟩
      · have := rep_dp (.tup ys) (SeqAt.canLay_of_shaped hc.2) ry eg
        simpa only [toPy] using this
      · have := hc.2
        simpa only [okPy, toPy] using this
    · cases h
theorem in_lst {x y : V} {d : D} {ys : List D} {c : Bool} (rx : Rep u G d x) (ry : Rep u G (.lst ys) y) (eg : Ex G H) (h : (if (okPy d && okPy (.lst ys)) = true then some (ys.any fun y => eqB y d) else none) = some c) :
    ∃ p ds, Dp u.K H x p ∧ Dp u.K H y (.list ds) ∧ SeqAt.shaped p = true ∧ SeqAt.shaped (.list ds) = true ∧ (ds.any fun z => PyData.eqv z p) = c := by
  split at h
  · cases h
    rename_i hc
    rw [Bool.and_eq_true] at hc
    refine ⟨toPy d, toPyL ys, rep_dp d (SeqAt.canLay_of_shaped hc.1) rx eg, ?_, hc.1, ?_, toPyL_any⟩
    · have := rep_dp (.lst ys) (SeqAt.canLay_of_shaped hc.2) ry eg
      simpa only [toPy] using this
    · have := hc.2
      simpa only [okPy, toPy] using this
  · cases h
theorem inB_cases {d e : D} {c : Bool} (h : inB d e = some c) : (∃ i j, d = .str i ∧ e = .str j ∧ c = subB i j) ∨ (∃ ys, e = .tup ys ∧ (if (flatD d && ys.all flatD) = true then some (ys.any fun y => eqB y d) else if (okPy d && okPy (.tup ys)) = true then some (ys.any fun y => eqB y d) else none) = some c) ∨
    ∃ ys, e = .lst ys ∧ (if (okPy d && okPy (.lst ys)) = true then some (ys.any fun y => eqB y d) else none) = some c := by
  unfold inB at h
  split at h
  · cases h; exact .inl ⟨_, _, rfl, rfl, rfl⟩
  · exact .inr (.inl ⟨_, rfl, h⟩)
  · exact .inr (.inr ⟨_, rfl, h⟩)
  · cases h
theorem rr_in : RzR u (MH.rInA u.K) inD := fun x y d e z G H Q rx ry hz eg k => by
  unfold inD at hz
  cases hb : inB d e with
  | none => rw [hb] at hz; cases hz
  | some c =>
    rw [hb] at hz
    cases hz
    rcases inB_cases hb with ⟨i, j, rfl, rfl, rfl⟩ | ⟨ys, rfl, h⟩ | ⟨ys, rfl, h⟩
    · exact .inl ⟨i, j, rep_str.mp rx, rep_str.mp ry, Kon.ret k eg (rep_bl.mpr rfl)⟩
    · rcases in_tup rx ry eg h with ⟨p, xs, h1, h2, h3, h4, h5⟩ | ⟨p, ds, h1, h2, h3, h4, h5⟩
      · exact .inr (.inl ⟨p, xs, h1, h2, h3, h4, Kon.ret k eg (rep_bl.mpr (by rw [h5]; rfl))⟩)
      · exact .inr (.inr (.inr ⟨p, ds, h1, h2, h3, h4, Kon.ret k eg (rep_bl.mpr (by rw [h5]))⟩))
    · obtain ⟨p, ds, h1, h2, h3, h4, h5⟩ := in_lst rx ry eg h
      exact .inr (.inr (.inl ⟨p, ds, h1, h2, h3, h4, Kon.ret k eg (rep_bl.mpr (by rw [h5]))⟩))
theorem rr_notIn : RzR u (MH.rNotInA u.K) notInD := fun x y d e z G H Q rx ry hz eg k => by
  unfold notInD at hz
  cases hb : inB d e with
  | none => rw [hb] at hz; cases hz
  | some c =>
    rw [hb] at hz
    cases hz
    rcases inB_cases hb with ⟨i, j, rfl, rfl, rfl⟩ | ⟨ys, rfl, h⟩ | ⟨ys, rfl, h⟩
    · exact .inl ⟨i, j, rep_str.mp rx, rep_str.mp ry, Kon.ret k eg (rep_bl.mpr rfl)⟩
    · rcases in_tup rx ry eg h with ⟨p, xs, h1, h2, h3, h4, h5⟩ | ⟨p, ds, h1, h2, h3, h4, h5⟩
      · exact .inr (.inl ⟨p, xs, h1, h2, h3, h4, Kon.ret k eg (rep_bl.mpr (by rw [h5]; rfl))⟩)
      · exact .inr (.inr (.inr ⟨p, ds, h1, h2, h3, h4, Kon.ret k eg (rep_bl.mpr (by rw [h5]))⟩))
    · obtain ⟨p, ds, h1, h2, h3, h4, h5⟩ := in_lst rx ry eg h
      exact .inr (.inr (.inl ⟨p, ds, h1, h2, h3, h4, Kon.ret k eg (rep_bl.mpr (by rw [h5]))⟩))
end
end ML
end
section
set_option Elab.async false
set_option linter.all false
set_option maxRecDepth 100000
set_option maxHeartbeats 2000000
set_option autoImplicit false
namespace MH
open PySem PySem.Spec PyProof.Rows L2
def TyX2 (K : PySem.W.Frag) (H : Hp) (x : V) (t : Value) : Prop := TyX K H x t ∨ ∃ a o, x = .ref a ∧ t = .type "dict" ∧ H a = some (AtO a o) ∧ o.cls = .type "dict"
theorem kit_ofA {X : Cx} {pins : List (Addr × Obj)} {σ : L2.St} {H : Hp} {s : Shared} {x : V} {u t : Value} (I : Inv X pins σ H s) (rx : L2.RelV x u) (ty : TyX2 X.K H x t) : ∃ P : Heap → Prop, PySem.W.KitX X.K u t P ∧ P s.heap ∧ u ≠ .builtin "__main__.__loader__#opaque" := by
  rcases ty with ty | ⟨a, o, rfl, rfl, ha, hc⟩
  · exact kit_of I rx ty
  · cases (show u = Value.ref a from rx)
    obtain ⟨e, _, _⟩ := I.hok a _ ha
    exact ⟨_, PySem.W.kitx_dict, ⟨o, e, hc⟩, fun z => nomatch z⟩
def rIsiA (K : PySem.W.Frag) : List V → Hp → VK → Prop := fun xs H Q => ∃ (x c : V) (t u : Value) (b : Bool), xs = [x, c] ∧ ClsV c u ∧ TyX2 K H x t ∧ PySem.W.kitOne K t u = some b ∧ Q (.bl b) H
theorem call_isiA {X : Cx} : CallR X (.builtin "isinstance") (rIsiA X.K) := by
  intro pins s σ H xs us Q I r h
  obtain ⟨x, c, t, u, b, rfl, k, ty, e, q⟩ := h
  obtain ⟨u1, u2, rfl, r1, r2⟩ := vals2 r
  have e2 := k.eq r2
  subst e2
  obtain ⟨P, Z, p, hx⟩ := kit_ofA I r1 ty
  exact PySem.W.kia_one Z I.kIn p e hx fun tk => ⟨.bl b, H, I.tok tk, rfl, q⟩
end MH
namespace ML
open PySem PySem.Spec PyProof.Rows L2
section
variable {u : Uv} {W : WX} {b : List Nat} {B G0 G G' H H' : Hp} {σ : L2.St} {ε : Env}
def ixD : D → D → Option D
  | .lst xs, .int i => atI xs i
  | .tup xs, .int i => atI xs i
  | .scr ns, .int i => (atI ns i).map .int
  | .str z, .int i => if z.length ≤ 100000 then (atI z.cps.toList i).map fun c => .str ⟨#[c]⟩ else none
  | _, _ => none
theorem atI_rep {xs : List D} {vs : List V} {i : Int} {d : D} (r : RepL u G xs vs) (h : atI xs i = some d) : ∃ v, atI vs i = some v ∧ Rep u G d v := by
  unfold atI at h ⊢
  rw [← r.length]
  cases e : ixN xs.length i with
  | none => rw [e] at h; cases h
  | some j =>
    rw [e] at h
    simp only [Option.bind_some] at h ⊢
    exact r.get h
theorem atI_map {ns : List Int} {i : Int} {n : Int} (h : atI ns i = some n) : atI (ns.map V.int) i = some (.int n) := by
  unfold atI at h ⊢
  rw [List.length_map]
  cases e : ixN ns.length i with
  | none => rw [e] at h; cases h
  | some j =>
    rw [e] at h
    simp only [Option.bind_some] at h ⊢
    rw [List.getElem?_map, h]; rfl
theorem rr_ix : RzR u (rIx u.K) ixD := fun x y d e z G H Q rx ry hz eg k => by
  cases d <;> cases e <;> simp only [ixD] at hz <;> first | (cases hz; done) | skip
  · split at hz
    · rename_i zz i hl
      cases hc : atI zz.cps.toList i with
      | none => rw [hc] at hz; cases hz
      | some c =>
        rw [hc] at hz
        cases hz
        exact .inr (.inr ⟨_, _, c, rep_str.mp rx, rep_int.mp ry, sz_of hl, hc, Kon.ret k eg (rep_str.mpr rfl)⟩)
    · cases hz
  · obtain ⟨a, vs, rfl, a1, a2⟩ := rep_tup.mp rx
    obtain ⟨v, h1, h2⟩ := atI_rep a2 hz
    exact .inr (.inl ⟨a, vs, _, v, rfl, rep_int.mp ry, ex_t eg a1, h1, Kon.ret k eg h2⟩)
  · obtain ⟨a, vs, rfl, a1, a2⟩ := rep_lst.mp rx
    obtain ⟨v, h1, h2⟩ := atI_rep a2 hz
    exact .inl ⟨a, vs, _, v, rfl, rep_int.mp ry, SqL.of (eg _ _ a1), h1, Kon.ret k eg h2⟩
  · rename_i ns i
    obtain ⟨a, rfl, a1⟩ := rep_scr.mp rx
    cases hc : atI ns i with
    | none => rw [hc] at hz; cases hz
    | some n =>
      rw [hc] at hz
      cases hz
      exact .inl ⟨a, _, _, _, rfl, rep_int.mp ry, ex_l eg a1, atI_map hc, Kon.ret k eg (rep_int.mpr rfl)⟩
def ixPF (i : Nat) (fb : Env → Out D) : Env → Out D := fun ε => match lookAt i ε with
  | none => .bad
  | some _ => (fb ε).bnd fun e ε1 => match e, lookAt i ε1 with
    | .int j, some (.lst xs) => Out.opt (atI xs j) ε1
    | _, _ => .bad
theorem RepE.lookL {i : Nat} {xs : List D} (R : RepE u B G0 G H σ ε) (h : lookAt i ε = some (.lst xs)) : ∃ l vs, σ[i]? = some (some (.ref l)) ∧ H l = some (.lst vs) ∧ RepL u G xs vs := by
  unfold lookAt at h
  cases e : ε[i]? with
  | none => rw [e] at h; cases h
  | some s =>
    rw [e] at h
    obtain ⟨o, a1, a2⟩ := R.sl i s e
    cases s with
    | no => cases h
    | xn x => cases h
    | fz d' =>
      cases h
      obtain ⟨v, rfl, r⟩ := a2
      obtain ⟨a, vs, rfl, b1, b2⟩ := rep_lst.mp r
      exact ⟨a, vs, a1, R.gh _ _ b1, b2⟩
    | ow d' =>
      cases h
      obtain ⟨l, rfl, _, _, vs, b1, b2⟩ := a2
      exact ⟨l, vs, a1, b1, b2⟩
theorem rz_ixP {i : Nat} {tb : TE} {fb : Env → Out D} (hb : RzE u W tb fb) : RzE u W (tOp (rIx u.K) (tVar i) tb) (ixPF i fb) := fun B G0 G H σ ε Q R q => by
  unfold ixPF at q
  cases e0 : lookAt i ε with
  | none => rw [e0] at q; exact q.elim
  | some d0 =>
    rw [e0] at q
    simp only at q
    obtain ⟨v, hv, _⟩ := R.look e0
    refine ⟨v, hv, hb _ _ _ _ _ _ _ R (q.bnd.mono fun e ε1 G1 H1 e1 R1 h1 w rw => ?_)⟩
    cases e with
    | int j =>
      cases e2 : lookAt i ε1 with
      | none => simp only [e2] at h1; exact h1.elim
      | some d =>
        cases d with
        | lst xs =>
          simp only [e2] at h1
          obtain ⟨z, hz, h3⟩ := h1.opt
          obtain ⟨l, vs, c1, c2, c3⟩ := R1.lookL e2
          rw [hv] at c1
          cases c1
          obtain ⟨y, y1, y2⟩ := atI_rep c3 hz
          exact .inl ⟨l, vs, j, y, rfl, rep_int.mp rw, SqL.of c2, y1, h3.ret R1 y y2⟩
        | _ => simp only [e2] at h1; exact h1.elim
    | _ => exact h1.elim
def cutL {α : Type} (xs : List α) (lo hi : Option Int) : List α := (xs.drop (HT.sIx xs.length 0 lo)).take (HT.sIx xs.length xs.length hi - HT.sIx xs.length 0 lo)
def sliceD (d : D) (lo hi : Option Int) : Option D := match d with
  | .lst xs => some (.lst (cutL xs lo hi))
  | .tup xs => some (.tup (cutL xs lo hi))
  | .str z => if z.length ≤ 100000 then some (.str (cutS z lo hi)) else none
  | _ => none
def RzO (u : Uv) (W : WX) (to : TO) (f : Env → Out (Option Int)) : Prop := ∀ B G0 G H σ ε Q, RepE u B G0 G H σ ε → Pst u W B G0 σ G (f ε) (fun o _ _ H' => Q o H') → to σ H Q
def noPF : Env → Out (Option Int) := fun ε => .ok none ε
theorem ro_none : RzO u W tNoPart noPF := fun B G0 G H σ ε Q R q => q.ret R
def partF (f : Env → Out D) : Env → Out (Option Int) := fun ε => (f ε).bnd fun d ε1 => match d with
  | .int i => .ok (some i) ε1
  | _ => .bad
theorem ro_some {te : TE} {f : Env → Out D} (h : RzE u W te f) : RzO u W (tPart te) (partF f) := fun B G0 G H σ ε Q R q =>
  h _ _ _ _ _ _ _ R (q.bnd.mono fun d ε1 G1 H1 e1 R1 h1 v rv => by
    cases d with
    | int i => exact ⟨i, rep_int.mp rv, h1.ret R1⟩
    | _ => exact h1.elim)
theorem cutV_rep {xs : List D} {vs : List V} (r : RepL u G xs vs) (lo hi : Option Int) : RepL u G (cutL xs lo hi) (cutV vs lo hi) := by
  unfold cutL cutV
  rw [r.length]
  exact (r.drop _).take _
theorem cut_whole {α : Type} {xs : List α} {lo hi : Option Int} (h : HT.sIx xs.length 0 lo = 0 ∧ HT.sIx xs.length xs.length hi = xs.length) : cutL xs lo hi = xs := by
  unfold cutL
  rw [h.1, h.2]; simp
def slF (f : Env → Out D) (fl fh : Env → Out (Option Int)) : Env → Out D := fun ε => (f ε).bnd fun d ε1 => (fl ε1).bnd fun lo ε2 => (fh ε2).bnd fun hi ε3 => Out.opt (sliceD d lo hi) ε3
theorem rz_slice {te : TE} {tl th : TO} {f : Env → Out D} {fl fh : Env → Out (Option Int)} (h : RzE u W te f) (hl : RzO u W tl fl) (hh : RzO u W th fh) : RzE u W (tSl (MH.rSlAll u.K) te tl th) (slF f fl fh) := fun B G0 G H σ ε Q R q =>
  h _ _ _ _ _ _ _ R (q.bnd.mono fun d ε1 G1 H1 e1 R1 h1 v rv => hl _ _ _ _ _ _ _ R1 (h1.bnd.mono fun lo ε2 G2 H2 e2 R2 h2 => hh _ _ _ _ _ _ _ R2 (h2.bnd.mono fun hi ε3 G3 H3 e3 R3 h3 => by
    have rv3 : Rep u G3 d v := (rv.mono e2).mono e3
    obtain ⟨z, hz, h4⟩ := h3.opt
    cases d with
    | lst xs =>
      cases hz
      obtain ⟨a, vs, rfl, a1, a2⟩ := rep_lst.mp rv3
      exact .inl ⟨a, vs, rfl, SqL.of (R3.gh _ _ a1), fun p hp => h4.ret' (R3.exn hp _) (R3.new hp _) _ (rep_lst.mpr ⟨p, _, rfl, upd_same, RepL.mono (R3.exn hp _) _ (cutV_rep a2 lo hi)⟩)⟩
    | tup xs =>
      cases hz
      obtain ⟨a, vs, rfl, a1, a2⟩ := rep_tup.mp rv3
      refine .inr (.inl ⟨a, vs, rfl, ex_t R3.gh a1, fun hw => ?_, fun hw p hp => h4.ret' (R3.exn hp _) (R3.new hp _) _ (rep_tup.mpr ⟨p, _, rfl, upd_same, RepL.mono (R3.exn hp _) _ (cutV_rep a2 lo hi)⟩)⟩)
      rw [← a2.length] at hw
      exact h4.ret R3 _ (by rw [cut_whole hw]; exact rv3)
    | str zz =>
      simp only [sliceD] at hz
      split at hz
      · cases hz
        exact .inr (.inr ⟨zz, rep_str.mp rv3, sz_of (by assumption), h4.ret R3 _ (rep_str.mpr rfl)⟩)
      · cases hz
    | _ => cases hz)))
def oneD (f : D → Option D) : List D → Option D
  | [d] => f d
  | _ => none
theorem rc_one {r : List V → Hp → VK → Prop} {f : D → Option D} (h : ∀ x d z G H Q, Rep u G d x → f d = some z → Ex G H → Kon u z G H Q → r [x] H Q) : RzC u r (oneD f) := fun xs ds z G H Q rl hz eg k => by
  cases ds with
  | nil => cases hz
  | cons d ds =>
    cases ds with
    | cons _ _ => cases hz
    | nil =>
      simp only [RepL] at rl
      obtain ⟨v, r', rfl, r1, rfl⟩ := rl
      exact h v d z G H Q r1 hz eg k
def lenN : D → Option Nat
  | .lst xs => some xs.length
  | .tup xs => some xs.length
  | .scr ns => some ns.length
  | .str z => if z.length ≤ 100000 then some z.length else none
  | _ => none
def lenD : List D → Option D := oneD fun d => (lenN d).map fun n => .int (n : Nat)
theorem lenV_of {d : D} {n : Nat} {v : V} (r : Rep u G d v) (h : lenN d = some n) (e : Ex G H) : LenV u.K v H n := by
  cases d with
  | lst xs => cases h; obtain ⟨a, vs, rfl, a1, a2⟩ := rep_lst.mp r; exact .inl ⟨vs, SqL.of (e _ _ a1), a2.length⟩
  | tup xs => cases h; obtain ⟨a, vs, rfl, a1, a2⟩ := rep_tup.mp r; exact .inr ⟨vs, ex_t e a1, a2.length⟩
  | scr ns => cases h; obtain ⟨a, rfl, a1⟩ := rep_scr.mp r; exact .inl ⟨_, ex_l e a1, by simp⟩
  | str z =>
    simp only [lenN] at h
    split at h
    · cases h; rw [rep_str.mp r]; exact ⟨sz_of (by assumption), rfl⟩
    · cases h
  | _ => cases h
theorem rc_len : RzC u (fun xs H Q => ∃ x n, xs = [x] ∧ LenV u.K x H n ∧ Q (.int n) H) lenD := rc_one fun x d z G H Q r hz eg k => by
  cases hn : lenN d with
  | none => rw [hn] at hz; cases hz
  | some n => rw [hn] at hz; cases hz; exact ⟨x, n, rfl, lenV_of r hn eg, Kon.ret k eg (rep_int.mpr rfl)⟩
def bools : List D → Option (List Bool)
  | [] => some []
  | d :: ds => (asB d).bind fun b => (bools ds).map fun bs => b :: bs
theorem bools_rep : ∀ {ds : List D} {vs : List V} {bs : List Bool}, RepL u G ds vs → bools ds = some bs → vs = bs.map V.bl
  | [], vs, bs, r, h => by simp only [RepL] at r; cases h; exact r
  | d :: ds, vs, bs, r, h => by
    simp only [RepL] at r
    obtain ⟨v, rr, rfl, r1, r2⟩ := r
    simp only [bools] at h
    cases hb : asB d with
    | none => rw [hb] at h; cases h
    | some b =>
      rw [hb] at h
      simp only [Option.bind_some] at h
      cases hs : bools ds with
      | none => rw [hs] at h; cases h
      | some l => rw [hs] at h; cases h; rw [asB_rep hb r1, bools_rep r2 hs]; rfl
def intsD : List D → Option (List Int)
  | [] => some []
  | .int i :: ds => (intsD ds).map fun bs => i :: bs
  | _ => none
theorem intsD_rep : ∀ {ds : List D} {vs : List V} {bs : List Int}, RepL u G ds vs → intsD ds = some bs → vs = bs.map V.int
  | [], vs, bs, r, h => by simp only [RepL] at r; cases h; exact r
  | d :: ds, vs, bs, r, h => by
    simp only [RepL] at r
    obtain ⟨v, rr, rfl, r1, r2⟩ := r
    cases d with
    | int i =>
      simp only [intsD] at h
      cases hs : intsD ds with
      | none => rw [hs] at h; cases h
      | some l => rw [hs] at h; cases h; rw [rep_int.mp r1, intsD_rep r2 hs]; rfl
    | _ => cases h
def allD : List D → Option D := oneD fun
  | .lst ds => (bools ds).map fun bs => .bl (bs.all id)
  | _ => none
theorem rc_all : RzC u (rAll u.K) allD := rc_one fun x d z G H Q r hz eg k => by
  cases d with
  | lst ds =>
    simp only at hz
    cases hb : bools ds with
    | none => rw [hb] at hz; cases hz
    | some bs =>
      rw [hb] at hz; cases hz
      obtain ⟨a, vs, rfl, a1, a2⟩ := rep_lst.mp r
      exact ⟨a, bs, rfl, SqL.of (by rw [← bools_rep a2 hb]; exact eg _ _ a1), Kon.ret k eg (rep_bl.mpr rfl)⟩
  | _ => cases hz
def sumD : List D → Option D := oneD fun
  | .lst ds => (intsD ds).map fun bs => .int bs.sum
  | _ => none
def tupleD : List D → Option D := oneD fun
  | .lst ds => some (.tup ds)
  | .tup ds => some (.tup ds)
  | _ => none
theorem rc_tuple : RzC u (fun xs H Q => ∃ p ys, xs = [.ref p] ∧ ((SqL u.K H p ys ∧ ∀ l, H l = none → Q (.ref l) (upd H l (.tup ys))) ∨ (SqT u.K H p ys ∧ Q (.ref p) H))) tupleD := rc_one fun x d z G H Q r hz eg k => by
  cases d with
  | lst ds =>
    cases hz
    obtain ⟨a, vs, rfl, a1, a2⟩ := rep_lst.mp r
    exact ⟨a, vs, rfl, .inl ⟨SqL.of (eg _ _ a1), fun p hp => Kon.new k eg hp (rep_tup.mpr ⟨p, vs, rfl, upd_same, RepL.mono (Ex.upd (eg.free hp)) _ a2⟩)⟩⟩
  | tup ds =>
    cases hz
    obtain ⟨a, vs, rfl, a1, a2⟩ := rep_tup.mp r
    exact ⟨a, vs, rfl, .inr ⟨ex_t eg a1, Kon.ret k eg r⟩⟩
  | _ => cases hz
def listD : List D → Option D := oneD fun
  | .lst ds => some (.lst ds)
  | .tup ds => some (.lst ds)
  | _ => none
def intD : List D → Option D := oneD fun
  | .int i => some (.int i)
  | .bl c => some (.int (if c then 1 else 0))
  | _ => none
theorem rc_int : RzC u (fun xs H Q => (∃ i, xs = [.int i] ∧ Q (.int i) H) ∨ ∃ k, xs = [.bl k] ∧ Q (.int (if k then 1 else 0)) H) intD := rc_one fun x d z G H Q r hz eg k => by
  cases d with
  | int i => cases hz; exact .inl ⟨i, by rw [rep_int.mp r], Kon.ret k eg (rep_int.mpr rfl)⟩
  | bl c => cases hz; exact .inr ⟨c, by rw [rep_bl.mp r], Kon.ret k eg (rep_int.mpr rfl)⟩
  | _ => cases hz
structure ClsOk (K : PySem.W.Frag) (C : Addr) : Prop where
  cl : Cls K C
  ha : PySem.W.findIn K (.ref C) "__class__" = some (some (.builtin "object.__class__"))
  hn : PySem.W.specialIn K (.builtin "object.__class__") "__get__" = some (some (.builtin "getset_descriptor.__get__"))
  htk : PySem.W.takesIn K (.builtin "object.__class__") = some true
  hm : PySem.W.mroIn K C (.type "object") = some true
  no : ∀ T ∈ ["int", "bool", "str", "tuple", "list", "dict"], PySem.W.kitOne K (.ref C) (.type T) = some false
  yes : PySem.W.kitOne K (.ref C) (.ref C) = some true
  none_ : ∀ T ∈ ["NoneType", "int", "bool", "str", "tuple", "list", "dict"], PySem.W.kitOne K (.type T) (.ref C) = some false
def kindD : D → String
  | .non => "NoneType" | .bl _ => "bool" | .int _ => "int" | .str _ => "str" | .tup _ => "tuple" | .lst _ => "list" | .scr _ => "list" | .dk _ _ => "dict" | .dt _ _ => "dict" | .dn _ _ => "dict" | .obj _ _ _ => "object" | .mo _ _ _ _ => "object"
def isiB (d : D) (T : String) : Bool := kindD d == T || (T == "int" && kindD d == "bool")
theorem tyX_of {d : D} {v : V} (r : Rep u G d v) (e : Ex G H) (h : kindD d ≠ "object") (hs : ∀ ns, d ≠ .scr ns) (hn : ∀ ks xs, d ≠ .dn ks xs) : TyX u.K H v (.type (kindD d)) := by
  cases d with
  | non => rw [rep_non.mp r]; exact .base .non
  | bl c => rw [rep_bl.mp r]; exact .base (.bl c)
  | int c => rw [rep_int.mp r]; exact .base (.int c)
  | str c => rw [rep_str.mp r]; exact .base (.str c)
  | tup ds =>
    obtain ⟨a, vs, rfl, a1, a2⟩ := rep_tup.mp r
    rcases ex_t e a1 with (h1 | ⟨o, h1⟩) | ⟨o, its, n, h1, h2, _⟩
    · exact .base (.tup h1)
    · exact .fTuple h1
    · exact .kTuple h1 h2
  | lst ds => obtain ⟨a, vs, rfl, a1, a2⟩ := rep_lst.mp r; exact .base (.lst (e _ _ a1))
  | scr ns => exact absurd rfl (hs ns)
  | dk _ _ => simp only [Rep] at r; obtain ⟨a, vs, rfl, a1, _⟩ := r; exact .base (.dK (e _ _ a1))
  | dt _ _ => simp only [Rep] at r; obtain ⟨a, vs, rfl, a1, _⟩ := r; exact .base (.dT (e _ _ a1))
  | dn ks xs => exact absurd rfl (hn ks xs)
  | obj _ _ _ => exact absurd rfl h
  | mo _ _ _ _ => exact absurd rfl h
def typesB : List String := ["int", "bool", "str", "tuple", "list", "dict"]
theorem kit_all (K : PySem.W.Frag) : ∀ a ∈ ["NoneType", "bool", "int", "str", "tuple", "list", "dict"], ∀ T ∈ typesB, PySem.W.kitOne K (.type a) (.type T) = some (a == T || (T == "int" && a == "bool")) := by
  have key : (["NoneType", "bool", "int", "str", "tuple", "list", "dict"].all fun a => typesB.all fun T => decide (kitB a T = some (a == T || (T == "int" && a == "bool")))) = true := by decide +kernel
  intro a ha T hT
  have h1 := List.all_eq_true.mp key a ha
  have h2 := of_decide_eq_true (List.all_eq_true.mp h1 T hT)
  exact kit_ty h2
def isiF (f : Env → Out D) (T : String) : Env → Out D := fun ε => (f ε).bnd fun d ε1 => match d with
  | .scr _ => .bad
  | .mo _ _ _ _ => .ok (.bl false) ε1
  | .obj _ _ _ => .ok (.bl false) ε1
  | d => .ok (.bl (isiB d T)) ε1
theorem rz_isi {te : TE} {f : Env → Out D} {T : String} (h : RzE u W te f) (hT : T ∈ typesB) (hc : ∀ c, ClsOk u.K (u.cl c)) : RzE u W (tCB (MH.rIsiA u.K) (tCons te (tCons (tC (.ty T)) tNil))) (isiF f T) := fun B G0 G H σ ε Q R q =>
  h _ _ _ _ _ _ _ R (q.bnd.mono fun d ε1 G1 H1 e1 R1 h1 v rv => by
    have fin : ∀ (t : Value) (c : Bool), MH.TyX2 u.K H1 v t → PySem.W.kitOne u.K t (.type T) = some c → Q (.bl c) H1 → MH.rIsiA u.K [v, .ty T] H1 Q := fun t c a b q => ⟨v, .ty T, t, .type T, c, rfl, .ty T, a, b, q⟩
    cases d with
    | scr _ => exact h1.elim
    | mo c fs ds _ =>
      simp only [Rep] at rv
      obtain ⟨a, m, dx, ws, _, rfl, a1, _⟩ := rv
      have C := hc c
      exact fin _ false (.inl (.base (.ins (R1.gh _ _ a1) C.cl C.ha C.hn C.htk C.hm))) (C.no T hT) (h1.ret R1 _ (rep_bl.mpr rfl))
    | dn _ _ => simp only [Rep] at rv; obtain ⟨a, o, ws, rfl, a1, a2, _⟩ := rv; exact fin (.type "dict") _ (.inr ⟨a, o, rfl, rfl, R1.gh _ _ a1, a2.dict.1.1⟩) (kit_all _ _ (by simp) T hT) (h1.ret R1 _ (rep_bl.mpr rfl))
    | obj c fs ds =>
      simp only [Rep] at rv
      obtain ⟨a, dx, ws, rfl, a1, _⟩ := rv
      have C := hc c
      exact fin _ false (.inl (.base (.ins (R1.gh _ _ a1) C.cl C.ha C.hn C.htk C.hm))) (C.no T hT) (h1.ret R1 _ (rep_bl.mpr rfl))
    | non => exact fin _ _ (.inl (tyX_of rv R1.gh (by simp [kindD]) (fun _ z => by cases z) (fun _ _ z => by cases z))) (kit_all _ _ (by simp [kindD]) T hT) (h1.ret R1 _ (rep_bl.mpr rfl))
    | bl _ => exact fin _ _ (.inl (tyX_of rv R1.gh (by simp [kindD]) (fun _ z => by cases z) (fun _ _ z => by cases z))) (kit_all _ _ (by simp [kindD]) T hT) (h1.ret R1 _ (rep_bl.mpr rfl))
    | int _ => exact fin _ _ (.inl (tyX_of rv R1.gh (by simp [kindD]) (fun _ z => by cases z) (fun _ _ z => by cases z))) (kit_all _ _ (by simp [kindD]) T hT) (h1.ret R1 _ (rep_bl.mpr rfl))
    | str _ => exact fin _ _ (.inl (tyX_of rv R1.gh (by simp [kindD]) (fun _ z => by cases z) (fun _ _ z => by cases z))) (kit_all _ _ (by simp [kindD]) T hT) (h1.ret R1 _ (rep_bl.mpr rfl))
    | tup _ => exact fin _ _ (.inl (tyX_of rv R1.gh (by simp [kindD]) (fun _ z => by cases z) (fun _ _ z => by cases z))) (kit_all _ _ (by simp [kindD]) T hT) (h1.ret R1 _ (rep_bl.mpr rfl))
    | lst _ => exact fin _ _ (.inl (tyX_of rv R1.gh (by simp [kindD]) (fun _ z => by cases z) (fun _ _ z => by cases z))) (kit_all _ _ (by simp [kindD]) T hT) (h1.ret R1 _ (rep_bl.mpr rfl))
    | dk _ _ => exact fin _ _ (.inl (tyX_of rv R1.gh (by simp [kindD]) (fun _ z => by cases z) (fun _ _ z => by cases z))) (kit_all _ _ (by simp [kindD]) T hT) (h1.ret R1 _ (rep_bl.mpr rfl))
    | dt _ _ => exact fin _ _ (.inl (tyX_of rv R1.gh (by simp [kindD]) (fun _ z => by cases z) (fun _ _ z => by cases z))) (kit_all _ _ (by simp [kindD]) T hT) (h1.ret R1 _ (rep_bl.mpr rfl)))
def isoF (f : Env → Out D) (c : Nat) : Env → Out D := fun ε => (f ε).bnd fun d ε1 => match d with
  | .scr _ => .bad
  | .mo _ _ _ _ => .bad
  | .obj c' _ _ => if c' = c then .ok (.bl true) ε1 else .bad
  | _ => .ok (.bl false) ε1
theorem rz_iso {te : TE} {f : Env → Out D} {c : Nat} (h : RzE u W te f) (hc : ClsOk u.K (u.cl c)) : RzE u W (tCB (MH.rIsiA u.K) (tCons te (tCons (tC (.ref (u.cl c))) tNil))) (isoF f c) := fun B G0 G H σ ε Q R q =>
  h _ _ _ _ _ _ _ R (q.bnd.mono fun d ε1 G1 H1 e1 R1 h1 v rv => by
    have fin : ∀ (t : Value) (k : Bool), MH.TyX2 u.K H1 v t → PySem.W.kitOne u.K t (.ref (u.cl c)) = some k → Q (.bl k) H1 → MH.rIsiA u.K [v, .ref (u.cl c)] H1 Q := fun t k a b q => ⟨v, .ref (u.cl c), t, .ref (u.cl c), k, rfl, .own _, a, b, q⟩
    cases d with
    | scr _ => exact h1.elim
    | mo _ _ _ _ => exact h1.elim
    | dn _ _ => simp only [Rep] at rv; obtain ⟨a, o, ws, rfl, a1, a2, _⟩ := rv; exact fin (.type "dict") _ (.inr ⟨a, o, rfl, rfl, R1.gh _ _ a1, a2.dict.1.1⟩) (hc.none_ _ (by simp)) (h1.ret R1 _ (rep_bl.mpr rfl))
    | obj c' fs ds =>
      by_cases hcc : c' = c
      · subst hcc
        simp only [if_true] at h1
        simp only [Rep] at rv
        obtain ⟨a, dx, ws, rfl, a1, _⟩ := rv
        exact fin _ true (.inl (.base (.ins (R1.gh _ _ a1) hc.cl hc.ha hc.hn hc.htk hc.hm))) hc.yes (h1.ret R1 _ (rep_bl.mpr rfl))
      · simp only [if_neg hcc] at h1; exact h1.elim
    | non => exact fin _ _ (.inl (tyX_of rv R1.gh (by simp [kindD]) (fun _ z => by cases z) (fun _ _ z => by cases z))) (hc.none_ _ (by simp [kindD])) (h1.ret R1 _ (rep_bl.mpr rfl))
    | bl _ => exact fin _ _ (.inl (tyX_of rv R1.gh (by simp [kindD]) (fun _ z => by cases z) (fun _ _ z => by cases z))) (hc.none_ _ (by simp [kindD])) (h1.ret R1 _ (rep_bl.mpr rfl))
    | int _ => exact fin _ _ (.inl (tyX_of rv R1.gh (by simp [kindD]) (fun _ z => by cases z) (fun _ _ z => by cases z))) (hc.none_ _ (by simp [kindD])) (h1.ret R1 _ (rep_bl.mpr rfl))
    | str _ => exact fin _ _ (.inl (tyX_of rv R1.gh (by simp [kindD]) (fun _ z => by cases z) (fun _ _ z => by cases z))) (hc.none_ _ (by simp [kindD])) (h1.ret R1 _ (rep_bl.mpr rfl))
    | tup _ => exact fin _ _ (.inl (tyX_of rv R1.gh (by simp [kindD]) (fun _ z => by cases z) (fun _ _ z => by cases z))) (hc.none_ _ (by simp [kindD])) (h1.ret R1 _ (rep_bl.mpr rfl))
    | lst _ => exact fin _ _ (.inl (tyX_of rv R1.gh (by simp [kindD]) (fun _ z => by cases z) (fun _ _ z => by cases z))) (hc.none_ _ (by simp [kindD])) (h1.ret R1 _ (rep_bl.mpr rfl))
    | dk _ _ => exact fin _ _ (.inl (tyX_of rv R1.gh (by simp [kindD]) (fun _ z => by cases z) (fun _ _ z => by cases z))) (hc.none_ _ (by simp [kindD])) (h1.ret R1 _ (rep_bl.mpr rfl))
    | dt _ _ => exact fin _ _ (.inl (tyX_of rv R1.gh (by simp [kindD]) (fun _ z => by cases z) (fun _ _ z => by cases z))) (hc.none_ _ (by simp [kindD])) (h1.ret R1 _ (rep_bl.mpr rfl)))
end
end ML
end
section
set_option Elab.async false
set_option linter.all false
set_option maxRecDepth 100000
set_option maxHeartbeats 2000000
set_option autoImplicit false
namespace MH
open PySem PySem.Spec PyProof.Rows L2
open PySem.W (EachIs AllAlike Sortable dataLe)
section
variable {prog : Program} {w : World} {A : Around} {E : Value → Shared → Prop} {s : Shared}
theorem oneLt_tuples {xs ys : List PyData} {a b : Value} {as bs : List Addr} {Q : Bool → Shared → Prop} (ra : Reads s.heap a (.tuple xs) as) (rb : Reads s.heap b (.tuple ys) bs) (hal : PySem.W.alikeAll xs ys = true)
    (hu : A.units + min (PyData.tuple xs).depth (PyData.tuple ys).depth < cLine) (hq : Q (PySem.W.dataLt (.tuple xs) (.tuple ys)) s) : wpAny (model prog w) A (oneLt' true a b) Q E s := by
  cases ra with
  | @tuple l o vs n _ as₁ h1 h2 h3 h4 =>
    cases rb with
    | @tuple l' o' vs' n' _ bs₁ k1 k2 k3 k4 =>
      have n1 : vs.size = xs.length := by simpa using SeqAt.ReadsAll.length _ _ _ h4
      have n2 : vs'.size = ys.length := by simpa using SeqAt.ReadsAll.length _ _ _ k4
      rw [PySem.W.dataLt_tuple, ← PySem.W.firstLt_toks xs ys hal, ← n1, ← n2] at hq
      rw [oneLt'_eq]
      simp only [if_true]
      refine wpAny_bind (wpAny_cRoomFor (SeqAt.room_here hu) ?_)
      obtain ⟨cls, dd, data, sl⟩ := o
      obtain ⟨cls2, dd2, data2, sl2⟩ := o'
      simp only at h2 h3 k2 k3
      subst h2 h3 k2 k3
      refine wpAny_bind (wpAny_callSpecialIfBound?_slot (T := "tuple") ⟨_, h1, rfl⟩ F.slot_tuple_lt (call_meets F.slot_tuple_lt ⟨_, h1, rfl⟩ F.entry_tuple_lt (F.args_tuple_lt_2 _ _)
        (SeqAt.tuple_ltAt l l' vs vs' n n' dd dd2 sl sl2 (SeqAt.pairEq xs ys) (fun j => PySem.W.dataLt (xs.getD j .none) (ys.getD j .none))) ⟨h1, k1, fun j j1 j2 => ?_, fun j j1 j2 hj => ?_, ?_⟩))
      · have := PySem.W.eqAt_alikeAll xs ys A.in1 s vs.toList vs'.toList _ _ h4 k4 hal (SeqAt.room_in hu) j (by simpa using j1) (by simpa using j2)
        simpa using this
      · have := PySem.W.rcLt_alikeAll xs ys A.in1 s vs.toList vs'.toList _ _ h4 k4 hal (SeqAt.room_in hu) j (by simpa using j1) (by simpa using j2) hj
        simpa using this
      · exact wpAny_truthy_bool hq
def isNilT : PyData → Bool
  | .tuple [] => true
  | _ => false
theorem isNilT_iff {d : PyData} (h : ∃ xs, d = .tuple xs) : isNilT d = true ↔ d = .tuple [] := by
  obtain ⟨xs, rfl⟩ := h
  cases xs <;> simp [isNilT]
def TupsR (h : Heap) : List Value → List PyData → Prop := EachIs (fun (v : Value) (d : PyData) => ∃ as, Reads h v d as)
theorem firstsE {M : Model} : ∀ {vs : List Value} {ds : List PyData}, TupsR s.heap vs ds → (∀ d : PyData, d ∈ ds → ∃ xs, d = .tuple xs) →
    ∃ fos : List (Option Value), fos.length = vs.length ∧ (∀ i : Nat, fos[i]? = some none ↔ ds[i]? = some (.tuple [])) ∧ ∀ {Q : List (Option Value) → Shared → Prop}, Q fos s → wpAny M A (vs.mapM firstOfTuple') Q E s
  | _, _, .nil, _ => ⟨[], rfl, fun i => by simp, fun {Q} h => by rw [List.mapM_nil]; exact wpAny_pure h⟩
  | _, _, .cons (b := d) ⟨as, r⟩ t, ht => by
    obtain ⟨fos, h1, h2, h3⟩ := firstsE (M := M) t fun d hd => ht d (List.mem_cons_of_mem _ hd)
    obtain ⟨xs, rfl⟩ := ht d (List.mem_cons_self ..)
    cases r with
    | @tuple a o vs n _ _ ho hc hd hr =>
      have n1 : vs.size = xs.length := by simpa using SeqAt.ReadsAll.length _ _ _ hr
      refine ⟨vs[0]? :: fos, by simp [h1], fun i => ?_, fun {Q} h => ?_⟩
      · cases i with
        | zero =>
          simp only [List.getElem?_cons_zero, Option.some.injEq, PyData.tuple.injEq]
          constructor
          · intro e
            have : vs.size ≤ 0 := by simpa using e
            exact List.eq_nil_of_length_eq_zero (by omega)
          · intro e
            rw [e] at n1
            simp at n1
            simp [n1]
        | succ i => simpa using h2 i
      · rw [List.mapM_cons]
        refine wpAny_bind ?_
        rw [PySem.W.kas_first_eq]
        refine wpAny_bind (PySem.W.Looks.here (show PySem.W.Looks M s.heap (typeOf (.ref a)) o.cls from (PySem.W.Looks.ld ho).andThen .now) ?_)
        rw [hc, if_neg (by first | decide | simp)]
        refine wpAny_bind (listItems_at ho hd (wpAny_pure ?_))
        exact wpAny_bind (h3 (Q := fun bs s' => wpAny M A (pure (vs[0]? :: bs)) Q E s') (wpAny_pure h))
theorem kindE {M : Model} {vs : List Value} {d : PyData} {ds : List PyData} (e : TupsR s.heap vs (d :: ds)) (ht : ∀ x, x ∈ d :: ds → ∃ xs, x = .tuple xs) (hn : .tuple [] ∈ d :: ds) {Q : SortKind → Shared → Prop}
    (h : Q (if isNilT d = true then oneType' else general') s) : wpAny M A (keyKind' vs.toArray) Q E s := by
  obtain ⟨fos, h1, h2, h3⟩ := firstsE (A := A) (E := E) (M := M) e ht
  rw [keyKind'_eq, List.mapM_toArray, map_eq_pure_bind]
  refine wpAny_bind (wpAny_bind (h3 (wpAny_pure ?_)))
  have hall : ¬ (fos.toArray.all fun x => x.isSome) = true := by
    intro q
    obtain ⟨i, hi⟩ := List.getElem?_of_mem hn
    have := (h2 i).2 hi
    have := List.mem_of_getElem? this
    rw [List.all_toArray, List.all_eq_true] at q
    have := q none this
    cases this
  rw [if_neg hall]
  have hnil := isNilT_iff (ht d (List.mem_cons_self ..))
  by_cases hd : d = .tuple []
  · have h0 : fos[0]? = some none := (h2 0).2 (by rw [hd]; rfl)
    rw [if_pos (hnil.2 hd)] at h
    rw [if_neg (by simp [h0])]
    rw [oneTypeOnly'_eq, List.mapM_toArray, map_eq_pure_bind]
    have hT : ∀ v ∈ vs, PySem.W.Looks M s.heap (typeOf v) (.type "tuple") := fun v hv => by
      obtain ⟨x, hx, as, r⟩ := EachIs.left e v hv
      obtain ⟨xs, rfl⟩ := ht x hx
      exact PySem.W.looks_reads r
    refine wpAny_bind (wpAny_bind (wpAny_bind (PySem.W.kas_mapM (r := Value.type "tuple") _ (fun v hv Q' hq => (hT v hv).here hq) (wpAny_pure ?_))))
    have hall : ((List.map (fun _ => Value.type "tuple") vs).toArray.all fun x => x == Value.type "tuple") = true := by
      simp only [List.all_toArray, List.all_map, List.all_eq_true]
      intro _ _
      rfl
    have hv0 : (List.map (fun _ => Value.type "tuple") vs).toArray[0]? = some (Value.type "tuple") := by
      cases e with
      | cons _ _ => simp
    rw [hv0]
    simp only [hall, if_true]
    exact wpAny_pure (wpAny_pure h)
  · have h0 : (fos[0]?.bind id).isSome = true := by
      have hl : 0 < fos.length := by
        rw [h1]
        cases e with
        | cons _ _ => simp
      have e0 : fos[0]? = some fos[0] := by simp [hl]
      have hne : fos[0] ≠ none := fun q => hd (by
        have := (h2 0).1 (by rw [e0, q])
        simpa using this)
      rw [e0]
      cases q : fos[0] with
      | none => exact absurd q hne
      | some v => rfl
    rw [if_neg (fun q => hd (hnil.1 q))] at h
    rw [if_pos (by simpa using h0)]
    exact wpAny_pure h
theorem sortsE {vs : List Value} {ds : List PyData} (e : TupsR s.heap vs ds) (hal : AllAlike ds) (ht : ∀ d, d ∈ ds → ∃ xs, d = .tuple xs) (hu : ∀ d, d ∈ ds → A.units + d.depth < cLine) : PySem.W.SortsAt prog w A s (PySem.W.dataKind s.heap ds) vs := by
  by_cases hn : PyData.tuple [] ∈ ds
  · refine ⟨fun v hv => ?_, ?_⟩
    · obtain ⟨d, hd, as, r⟩ := EachIs.left e v hv
      exact ⟨_, PySem.W.dataKind_some hal hd r⟩
    · cases ds with
      | nil => cases hn
      | cons d ds =>
        refine ⟨if isNilT d = true then oneType' else general', ?_, fun _ E Q hq => kindE e ht hn hq⟩
        intro E x y a b Q ha hb hq
        obtain ⟨d1, as, hd, ra, rfl⟩ := PySem.W.dataKind_inv ha
        obtain ⟨d2, as', hd', rb, rfl⟩ := PySem.W.dataKind_inv hb
        have hdd := hal d1 hd d2 hd'
        have hroom : A.units + min d1.depth d2.depth < cLine := Nat.lt_of_le_of_lt (Nat.add_le_add_left (Nat.min_le_left _ _) _) (hu d1 hd)
        obtain ⟨x1, rfl⟩ := ht d1 hd
        obtain ⟨x2, rfl⟩ := ht d2 hd'
        by_cases q : isNilT d = true
        · rw [if_pos q, keyLt'_oneType]
          exact oneLt_tuples ra rb (by simpa [PySem.W.alike] using hdd) hroom hq
        · rw [if_neg q]
          show wpAny _ _ (oneLt' false _ _) _ _ _
          exact PySem.W.oneLt_alike (f := false) (fun z => by cases z) ra rb hdd (by simp) hroom hq
  · refine PySem.W.SortsAt.data e hal (.inl fun d hd => ?_) hu
    obtain ⟨xs, rfl⟩ := ht d hd
    cases xs with
    | nil => exact absurd hd hn
    | cons x r => exact ⟨x, r, rfl⟩
def SortableE (ds : List PyData) : Prop := (∀ d, d ∈ ds → ∃ xs, d = .tuple xs) ∨ ∀ d, d ∈ ds → d ≠ .none ∧ ∀ xs, d ≠ .tuple xs
theorem sortsAt {vs : List Value} {ds : List PyData} (e : TupsR s.heap vs ds) (hal : AllAlike ds) (ht : SortableE ds) (hu : ∀ d, d ∈ ds → A.units + d.depth < cLine) : PySem.W.SortsAt prog w A s (PySem.W.dataKind s.heap ds) vs := by
  rcases ht with ht | ht
  · exact sortsE e hal ht hu
  · exact PySem.W.SortsAt.data e hal (.inr ht) hu
theorem sorted_dataE {β : Type} {vs : List Value} {bs : List β} {enc : β → PyData} {R : Value → β → Prop} {l : Addr} {Q : Value → Shared → Prop} (hl : s.heap.IsList l vs.toArray) (e : EachIs R vs bs) (er : EachIs (fun v b => ∃ as, Reads s.heap v (enc b) as) vs bs) (hal : AllAlike (bs.map enc)) (hk : SortableE (bs.map enc)) (hL : bs.length ≤ sizeLine)
    (hu : ∀ b, b ∈ bs → A.units + 2 + (enc b).depth < cLine) (h : ∀ out, out.length = bs.length → EachIs R out (bs.mergeSort (dataLe false enc)) → Q (.ref (s.heap.objs.size + 1)) { s with heap := sortedAll s.heap vs (List.toArray out) }) :
    wpAny (model prog w) A (call (.builtin "sorted") [.ref l]) Q E s := by
  have er' : EachIs (fun v b => ∃ as, Reads (PySem.W.sortingHeap (PySem.W.copyHeap s.heap vs) (s.heap.objs.size + 1) vs) v (enc b) as) vs bs := er.mono fun _ _ ⟨as, r⟩ => ⟨as, PyProof.Rows.Reads.keeps (fun _ _ => PySem.W.sorting_copy_old) r⟩
  exact PySem.W.sorted_vals hl (sortsAt (s := { s with heap := PySem.W.sortingHeap (PySem.W.copyHeap s.heap vs) (s.heap.objs.size + 1) vs }) (PySem.W.each_map (R := fun v d => ∃ as, Reads (PySem.W.sortingHeap (PySem.W.copyHeap s.heap vs) (s.heap.objs.size + 1) vs) v d as) enc er') hal hk (PySem.W.bound_map (A := A.in1.in1) hu)) (by rw [e.length]; exact hL)
    (h _ (by rw [PySem.W.sortVals_length false rfl]; exact e.length) (PySem.W.sortVals_data false e er' hal))
end
theorem dpAll_each {X : Cx} {pins : List (Addr × Obj)} {σ : L2.St} {H : Hp} {s : Shared} (I : Inv X pins σ H s) : ∀ {vs : List V} {ps : List PyData} {us : List Value}, DpAll X.K H vs ps → Vals vs us →
    EachIs (fun (v : Value) (b : V × PyData) => RelV b.1 v) us (vs.zip ps) ∧ EachIs (fun (v : Value) (b : V × PyData) => ∃ as, Reads s.heap v b.2 as) us (vs.zip ps)
  | _, _, _, .nil, .nil => ⟨.nil, .nil⟩
  | _, _, _, .cons d ds, .cons r rs => by
    obtain ⟨h1, h2⟩ := dpAll_each I ds rs
    exact ⟨.cons r h1, .cons (Dp.reads I _ _ _ d r) h2⟩
theorem zip_snd : ∀ {vs : List V} {ps : List PyData}, vs.length = ps.length → (vs.zip ps).map (·.2) = ps
  | [], [], _ => rfl
  | _ :: _, _ :: _, h => by simp only [List.zip_cons_cons, List.map_cons]; rw [zip_snd (by simpa using h)]
  | [], _ :: _, h => by cases h
  | _ :: _, [], h => by cases h
theorem dpAll_len {K : PySem.W.Frag} {H : Hp} : ∀ {vs : List V} {ps : List PyData}, DpAll K H vs ps → vs.length = ps.length
  | _, _, .nil => rfl
  | _, _, .cons _ h => by simp [dpAll_len h]
theorem each_vals : ∀ {us : List Value} {bs : List (V × PyData)}, EachIs (fun (v : Value) (b : V × PyData) => RelV b.1 v) us bs → Vals (bs.map (·.1)) us
  | _, _, .nil => .nil
  | _, _, .cons r h => .cons r (each_vals h)
def rSortD (K : PySem.W.Frag) : List V → Hp → VK → Prop := fun xs H Q => ∃ (a : Addr) (vs : List V) (ps : List PyData), xs = [.ref a] ∧ SqL K H a vs ∧ DpAll K H vs ps ∧ AllAlike ps ∧ SortableE ps ∧ (∀ p ∈ ps, p.depth ≤ 64) ∧
  ∀ p, H p = none → Q (.ref p) (upd H p (.lst (((vs.zip ps).mergeSort (dataLe false fun b => b.2)).map (·.1))))
theorem cr_sortD {X : Cx} {k : Nat} (hr : Room k X.A) : CallR X (.builtin "sorted") (rSortD X.K) := by
  intro pins s σ H xs us Q I r h
  obtain ⟨a, vs, ps, rfl, hs, hd, ha, hk, hdp, q⟩ := h
  obtain ⟨its, rv, hl, hz⟩ := I.list hs
  rw [Vals.ref1 r]
  obtain ⟨e1, e2⟩ := dpAll_each I hd rv
  have el := dpAll_len hd
  have ez : (vs.zip ps).map (fun b => b.2) = ps := zip_snd el
  have hlz : (vs.zip ps).length = vs.length := by rw [List.length_zip, el]; omega
  refine sorted_dataE (bs := vs.zip ps) (enc := fun b => b.2) hl.isList e1 e2 (by rw [ez]; exact ha) (by rw [ez]; exact hk) (by rw [hlz]; exact hz) (fun b hb => ?_) fun out ho he => ?_
  · have := hdp b.2 (by rw [← ez]; exact List.mem_map_of_mem hb)
    have := hr.un
    omega
  · obtain ⟨ep, he'⟩ := PyProof.Rows.sortedAll_at s.heap its out.toArray
    have hlen : (((vs.zip ps).mergeSort (dataLe false fun b => b.2)).map (·.1)).length ≤ sizeLine := by
      rw [List.length_map, List.length_mergeSort, hlz]; exact hz
    exact ⟨.ref _, upd H (s.heap.objs.size + 1) (.lst (((vs.zip ps).mergeSort (dataLe false fun b => b.2)).map (·.1))), I.laid (t' := s.toks) (fun _ _ => PyProof.Rows.sortedAll_old) (Nat.le_succ _) ⟨hlen, out, ep, each_vals he, he'⟩, rfl, q _ (I.hok.fresh (Nat.le_succ _))⟩
end MH
namespace ML
open PySem PySem.Spec PyProof.Rows L2
open PySem.W (AllAlike Sortable dataLe alike)
section
variable {u : Uv} {W : WX} {b : List Nat} {B G0 G G' H H' : Hp} {σ : L2.St} {ε : Env}
def sortOk0 (ds : List D) : Bool := ds.all (fun d => ds.all fun e => alike (toPy d) (toPy e)) && (ds.all (fun d => match d with | .tup (_ :: _) => true | _ => false) || ds.all fun d => match d with | .int _ => true | .str _ => true | .bl _ => true | .lst _ => true | _ => false) && ds.all fun d => okPy d
def sortOk (ds : List D) : Bool := ds.all (fun d => ds.all fun e => alike (toPy d) (toPy e)) && (ds.all (fun d => match d with | .tup _ => true | _ => false) || ds.all fun d => match d with | .int _ => true | .str _ => true | .bl _ => true | .lst _ => true | _ => false) && ds.all fun d => okPy d
def sortL (ds : List D) : List D := ds.mergeSort (dataLe false toPy)
theorem mem_toPyL {p : PyData} : ∀ {ds : List D}, p ∈ toPyL ds → ∃ d, d ∈ ds ∧ p = toPy d
  | [], h => by simp [toPyL] at h
  | d :: ds, h => by
    simp only [toPyL, List.mem_cons] at h
    rcases h with h | h
    · exact ⟨d, List.mem_cons_self, h⟩
    · obtain ⟨e, h1, h2⟩ := mem_toPyL h
      exact ⟨e, List.mem_cons_of_mem _ h1, h2⟩
theorem canAll {ds : List D} (h : ∀ d ∈ ds, okPy d = true) : PyData.canLayAll0 (toPyL ds) = true := by
  induction ds with
  | nil => rfl
  | cons d ds ih =>
    simp only [toPyL, PyData.canLayAll0, Bool.and_eq_true]
    exact ⟨SeqAt.canLay_of_shaped (h d List.mem_cons_self), ih fun e he => h e (List.mem_cons_of_mem _ he)⟩
theorem toPyL_map : ∀ ds : List D, toPyL ds = ds.map toPy
  | [] => rfl
  | d :: ds => by simp only [toPyL, List.map_cons, toPyL_map ds]
theorem sort_rep {ds : List D} {vs : List V} (r : RepL u G ds vs) : RepL u G (sortL ds) (((vs.zip (toPyL ds)).mergeSort (dataLe false fun b => b.2)).map (·.1)) := by
  have h1 : (vs.zip (toPyL ds)).mergeSort (dataLe false fun b => b.2) = ((vs.zip ds).mergeSort (dataLe false fun b => toPy b.2)).map (fun b => (b.1, toPy b.2)) := by
    rw [List.map_mergeSort (r := dataLe false fun b : V × D => toPy b.2) (s := dataLe false fun b : V × PyData => b.2) (f := fun b : V × D => (b.1, toPy b.2)) (fun a _ b _ => rfl)]
    congr 1
    rw [toPyL_map]
    clear r
    induction vs generalizing ds with
    | nil => simp
    | cons v vs ih => cases ds with
      | nil => simp
      | cons d ds => simp [ih]
  have h2 : sortL ds = ((vs.zip ds).mergeSort (dataLe false fun b => toPy b.2)).map (·.2) := by
    unfold sortL
    rw [List.map_mergeSort (r := dataLe false fun b : V × D => toPy b.2) (s := dataLe false toPy) (f := fun b : V × D => b.2) (fun a _ b _ => rfl)]
    congr 1
    have hl := r.length
    clear r h1
    induction vs generalizing ds with
    | nil => cases ds with
      | nil => rfl
      | cons _ _ => cases hl
    | cons v vs ih => cases ds with
      | nil => cases hl
      | cons d ds => simp only [List.zip_cons_cons, List.map_cons]; rw [← ih (by simpa using hl)]
  rw [h1, h2, List.map_map]
  have hp : ∀ b ∈ (vs.zip ds).mergeSort (dataLe false fun b => toPy b.2), Rep u G b.2 b.1 := fun b hb => by
    have hb' : b ∈ vs.zip ds := (List.mergeSort_perm _ _).mem_iff.mp hb
    obtain ⟨i, hi⟩ := List.getElem?_of_mem hb'
    rw [List.getElem?_zip_eq_some] at hi
    obtain ⟨v, hv, rv⟩ := r.get hi.2
    rw [hi.1] at hv; cases hv
    exact rv
  generalize (vs.zip ds).mergeSort (dataLe false fun b => toPy b.2) = l at hp
  induction l with
  | nil => simp [RepL]
  | cons b l ih => exact ⟨b.1, _, rfl, hp b List.mem_cons_self, ih fun c hc => hp c (List.mem_cons_of_mem _ hc)⟩
def sortedD : List D → Option D := oneD fun
  | .lst ds => if sortOk ds = true then some (.lst (sortL ds)) else none
  | _ => none
theorem sortOk_prop {ds : List D} (h : sortOk ds = true) : AllAlike (toPyL ds) ∧ MH.SortableE (toPyL ds) ∧ (∀ p ∈ toPyL ds, p.depth ≤ 64) ∧ ∀ d ∈ ds, okPy d = true := by
  unfold sortOk at h
  simp only [Bool.and_eq_true, Bool.or_eq_true, List.all_eq_true] at h
  obtain ⟨⟨h1, h2⟩, h3⟩ := h
  refine ⟨fun p hp q hq => ?_, ?_, fun p hp => ?_, h3⟩
  · obtain ⟨d, hd, rfl⟩ := mem_toPyL hp
    obtain ⟨e, he, rfl⟩ := mem_toPyL hq
    exact h1 d hd e he
  · rcases h2 with h2 | h2
    · refine .inl fun p hp => ?_
      obtain ⟨d, hd, rfl⟩ := mem_toPyL hp
      have := h2 d hd
      cases d with
      | tup xs => exact ⟨toPyL xs, by simp [toPy]⟩
      | _ => cases this
    · refine .inr fun p hp => ?_
      obtain ⟨d, hd, rfl⟩ := mem_toPyL hp
      have := h2 d hd
      cases d with
      | int _ => exact ⟨by simp [toPy], fun xs => by simp [toPy]⟩
      | str _ => exact ⟨by simp [toPy], fun xs => by simp [toPy]⟩
      | bl _ => exact ⟨by simp [toPy], fun xs => by simp [toPy]⟩
      | lst _ => exact ⟨by simp [toPy], fun xs => by simp [toPy]⟩
      | _ => cases this
  · obtain ⟨d, hd, rfl⟩ := mem_toPyL hp
    exact SeqAt.depth_of_shaped (h3 d hd)
theorem rc_sorted : RzC u (MH.rSortD u.K) sortedD := rc_one fun x d z G H Q r hz eg k => by
  cases d with
  | lst ds =>
    simp only at hz
    split at hz
    · cases hz
      rename_i hs
      obtain ⟨h1, h2, h3, h4⟩ := sortOk_prop hs
      obtain ⟨a, vs, rfl, a1, a2⟩ := rep_lst.mp r
      exact ⟨a, vs, toPyL ds, rfl, SqL.of (eg _ _ a1), rep_dpL ds (canAll h4) a2 eg, h1, h2, h3, fun p hp => Kon.new k eg hp (rep_lst.mpr ⟨p, _, rfl, upd_same, RepL.mono (Ex.upd (eg.free hp)) _ (sort_rep a2)⟩)⟩
    · cases hz
  | _ => cases hz
end
end ML
end
section
set_option Elab.async false
set_option linter.all false
set_option maxRecDepth 100000
set_option maxHeartbeats 2000000
set_option autoImplicit false
namespace MH
open PySem PySem.Spec PyProof.Rows L2
open PySem.W (EachIs AllAlike Sortable dataLe)
def keyPy (k : List Key) : PyData := .tuple (k.map fun x => match x with | .inl i => .int i | .inr z => .str z)
def rSortT : List V → Hp → VK → Prop := fun xs H Q => ∃ (d : Addr) (kvs : List (List Key × V)), xs = [V.ref d] ∧ Rd H d (.dT kvs) ∧ AllAlike (kvs.map fun p => keyPy p.1) ∧
  ∀ p (bs : List Addr), H p = none → IsKeys H kvs bs → Q (.ref p) (upd H p (.lst (((bs.zip kvs).mergeSort (dataLe false fun b => keyPy b.2.1)).map fun b => V.ref b.1)))
theorem key_reads {K : PySem.W.Frag} {H : Hp} : ∀ (k : List Key), DpAll K H (k.map kV) (k.map fun x => match x with | .inl i => PyData.int i | .inr z => PyData.str z)
  | [] => .nil
  | .inl i :: k => .cons (.int i) (key_reads k)
  | .inr z :: k => .cons (.str z) (key_reads k)
theorem isKeys_len {H : Hp} {kvs : List (List Key × V)} {bs : List Addr} (h : IsKeys H kvs bs) : kvs.length = bs.length := Paired.length h
theorem isKeys_each {X : Cx} {pins : List (Addr × Obj)} {σ : L2.St} {H : Hp} {s : Shared} (I : Inv X pins σ H s) : ∀ {kvs : List (List Key × V)} {bs : List Addr}, IsKeys H kvs bs →
    EachIs (fun (v : Value) (b : Addr × (List Key × V)) => v = .ref b.1) (bs.map Value.ref) (bs.zip kvs) ∧ EachIs (fun (v : Value) (b : Addr × (List Key × V)) => ∃ as, Reads s.heap v (keyPy b.2.1) as) (bs.map Value.ref) (bs.zip kvs)
  | _, _, .nil => ⟨.nil, .nil⟩
  | _, _, .cons h t => by
    obtain ⟨h1, h2⟩ := isKeys_each I t
    exact ⟨.cons rfl h1, .cons (Dp.reads I _ _ _ (.tup (SqT.of h) (key_reads _)) rfl) h2⟩
theorem each_refs {γ : Type} : ∀ {out : List Value} {l : List (Addr × γ)}, EachIs (fun (v : Value) (b : Addr × γ) => v = .ref b.1) out l → Vals (l.map fun b => V.ref b.1) out
  | _, _, .nil => .nil
  | _, _, .cons h t => by subst h; exact .cons rfl (each_refs t)
theorem cr_sortT {X : Cx} {k : Nat} (hr : Room k X.A) (hcalm : X.calm = true) : CallR X (.builtin "sorted") rSortT := by
  intro pins s σ H xs us Q I r h
  obtain ⟨d, kvs, rfl, hd, hal, q⟩ := h
  obtain ⟨u, rfl, rx⟩ := r.one
  cases rx
  obtain ⟨z, hs, ks, pr, o, es, ep, ho, hx, hdt, he, hn⟩ := (show ObjOk X.prog X.w H s.heap d (.dT kvs) from hd.ok I.hok)
  have l1 : es.size = ks.length := size_of_entries he
  have l2 : kvs.length = ks.length := Paired.length pr
  have hkeys := isKeys_of pr
  refine Calls.call_function_entry PyProof.Rows.kind_sorted PyProof.Rows.plain_sorted PyProof.Rows.entry_sorted (PyProof.Rows.args_sorted1 _) ?_
  unfold Builtin.«sorted»
  refine wpAny_bind (m := checkCount "sorted" 1 1 _) (wpAny_pure ?_)
  refine wpAny_bind (PySem.W.kdu_collect (A := X.A.in1) (kdl_raw hs hx hdt) (I.ok.hd hcalm) ho (by omega) fun h' tk acc hk it => ?_)
  have ea : acc.toList = ks.map fun x => Value.ref x.2.1 := by
    have hl : acc.toList.length = ks.length := by rw [Array.length_toList, it.1]; exact l1
    apply List.ext_getElem?
    intro j
    rw [List.getElem?_map]
    cases hj : acc.toList[j]? with
    | none =>
      have h1 := List.getElem?_eq_none_iff.mp hj
      rw [List.getElem?_eq_none (by omega)]
      rfl
    | some v =>
      obtain ⟨en, hen, hv⟩ := it.2 j v (by rw [← Array.getElem?_toList]; exact hj)
      have qe := entry_at he j
      rw [hen] at qe
      cases hb : ks[j]? with
      | none =>
        rw [hb] at qe
        exact nomatch (show some en = none from qe)
      | some b =>
        rw [hb] at qe
        have e2 : en = entryOfKey (tupleKind (mixKind X.prog X.w)) b := Option.some.inj qe
        rw [hv, e2]
        rfl
  generalize hbs : (ks.map fun x => x.2.1) = bs at hkeys
  have eb : acc.toList = bs.map Value.ref := by rw [ea, ← hbs, List.map_map]; rfl
  have I1 : Inv X pins σ H { s with heap := h', toks := tk } := I.kept hk
  have hbl : bs.length = ks.length := by rw [← hbs, List.length_map]
  have hacl : acc.toList.length ≤ sizeLine := by rw [eb, List.length_map, hbl]; omega
  refine wpAny_bind (wpAny_newList ?_ hacl)
  have hoL : (h'.push (seqObj "list" acc.toList.toArray 0)).get? h'.objs.size = some (seqObj "list" acc.toList.toArray 0) := Heap.get?_push_size _ rfl
  show wpAny _ _ _ _ _ { s with heap := h'.push (seqObj "list" acc.toList.toArray 0), toks := tk }
  obtain ⟨e1, e2⟩ := isKeys_each I1 hkeys
  rw [← eb] at e1 e2
  have er' : EachIs (fun v b => ∃ as, Reads (PySem.W.sortingHeap (h'.push (seqObj "list" acc.toList.toArray 0)) h'.objs.size acc.toList) v (keyPy b.2.1) as) acc.toList (bs.zip kvs) :=
    e2.mono fun _ _ ⟨as, r⟩ => ⟨as, PyProof.Rows.Reads.keeps (fun b o e => PySem.W.sortingHeap_old (Nat.ne_of_lt (Heap.lt_size e)) (Heap.get?_push_of_some _ e)) r⟩
  have ez : (bs.zip kvs).map (fun b => keyPy b.2.1) = kvs.map fun p => keyPy p.1 := by
    have : (bs.zip kvs).map (fun b => b.2) = kvs := by
      rw [List.map_snd_zip]
      have := isKeys_len hkeys; omega
    conv => rhs; rw [← this, List.map_map]
    rfl
  have hlz : (bs.zip kvs).length = acc.toList.length := e1.length.symm
  have S := sortsAt (prog := X.prog) (w := X.w) (A := X.A.in1.in1) (s := { s with heap := PySem.W.sortingHeap (h'.push (seqObj "list" acc.toList.toArray 0)) h'.objs.size acc.toList, toks := tk })
    (PySem.W.each_map (R := fun v d => ∃ as, Reads (PySem.W.sortingHeap (h'.push (seqObj "list" acc.toList.toArray 0)) h'.objs.size acc.toList) v d as) (fun b : Addr × (List Key × V) => keyPy b.2.1) er') (by rw [ez]; exact hal) (.inl fun p hp => by
      obtain ⟨b, _, rfl⟩ := List.mem_map.1 hp
      exact ⟨_, rfl⟩) (fun p hp => by
      obtain ⟨b, _, rfl⟩ := List.mem_map.1 hp
      have h1 : (keyPy b.2.1).depth ≤ 1 := by
        unfold keyPy
        simp only [PyData.depth]
        have : ∀ l : List Key, PyData.depthAll (l.map fun x => match x with | .inl i => PyData.int i | .inr z => PyData.str z) = 0 := by
          intro l
          induction l with
          | nil => rfl
          | cons x l ih => cases x <;> simp [PyData.depthAll, PyData.depth, ih]
        rw [this]; omega
      have := hr.un
      show X.A.units + 1 + 1 + _ < _
      omega)
  refine wpAny_bind (wpAny_holding (wpAny_call_entry PyProof.Rows.slot_list_sort ⟨_, hoL, rfl⟩ PyProof.Rows.entry_list_sort
    (PySem.W.list_sort_vals (s := { s with heap := h'.push (seqObj "list" acc.toList.toArray 0), toks := tk }) hoL S hacl ⟨_, rfl, ?_⟩) (PyProof.Rows.args_list_sort _)))
  generalize hout : PySem.W.sortVals (PySem.W.dataKind (PySem.W.sortingHeap (h'.push (seqObj "list" acc.toList.toArray 0)) h'.objs.size acc.toList) ((bs.zip kvs).map fun b => keyPy b.2.1)) false acc.toList acc.toList = out
  have so := PySem.W.sortVals_data false (enc := fun b : Addr × (List Key × V) => keyPy b.2.1) e1 er' (by rw [ez]; exact hal)
  rw [hout] at so
  obtain ⟨e', he'⟩ := PyProof.Rows.sortedHeap_at (vs := acc.toList) (out := out.toArray) hoL
  have hlen : (((bs.zip kvs).mergeSort (dataLe false fun b => keyPy b.2.1)).map fun b => V.ref b.1).length ≤ sizeLine := by
    rw [List.length_map, List.length_mergeSort, hlz]; exact hacl
  refine wpAny_pure ⟨_, rfl, .ref h'.objs.size, upd H h'.objs.size (.lst (((bs.zip kvs).mergeSort (dataLe false fun b => keyPy b.2.1)).map fun b => V.ref b.1)), I1.laid (t' := tk) (fun b u e => ?_) (Nat.le_refl _)
    (show ObjOk X.prog X.w _ _ _ (.lst (((bs.zip kvs).mergeSort (dataLe false fun b => keyPy b.2.1)).map fun b => V.ref b.1)) from ⟨hlen, out, e', each_refs so, he'⟩), rfl, q _ _ (I1.hok.fresh (Nat.le_refl _)) hkeys⟩
  have hb : b < h'.objs.size := Heap.lt_size e
  rw [PyProof.Rows.sortedHeap_old (Nat.ne_of_lt hb) (by rw [size_push']; exact Nat.lt_succ_of_lt hb)]
  exact Heap.get?_push_of_some _ e
def rSortU (K : PySem.W.Frag) : List V → Hp → VK → Prop := fun xs H Q => ∃ (a : Addr) (vs : List V) (ps : List PyData), xs = [.ref a] ∧ SqT K H a vs ∧ DpAll K H vs ps ∧ AllAlike ps ∧ SortableE ps ∧ (∀ p ∈ ps, p.depth ≤ 64) ∧
  ∀ p, H p = none → Q (.ref p) (upd H p (.lst (((vs.zip ps).mergeSort (dataLe false fun b => b.2)).map (·.1))))
theorem cr_sortU {X : Cx} {k : Nat} (hr : Room k X.A) : CallR X (.builtin "sorted") (rSortU X.K) := by
  intro pins s σ H xs us Q I r h
  obtain ⟨a, vs, ps, rfl, hs, hd, hal, hk, hdp, q⟩ := h
  obtain ⟨its, rv, ⟨o, ho, hc, n, hdt⟩, hz⟩ := I.tuple hs
  rw [Vals.ref1 r]
  refine Calls.call_function_entry PyProof.Rows.kind_sorted PyProof.Rows.plain_sorted PyProof.Rows.entry_sorted (PyProof.Rows.args_sorted1 _) ?_
  unfold Builtin.«sorted»
  refine wpAny_bind (m := checkCount "sorted" 1 1 _) (wpAny_pure ?_)
  have hle := rv.length
  refine wpAny_bind (wpAny_collect_seq a (.inr rfl) ho hc hdt (fun h' hkp => ?_) (by rw [List.size_toArray]; omega))
  have eit : its.toArray.toList = its := by simp
  rw [eit]
  have I1 : Inv X pins σ H { s with heap := h' } := I.kept (t' := s.toks) hkp
  have hacl : its.length ≤ sizeLine := by omega
  refine wpAny_bind (wpAny_newList ?_ hacl)
  have hoL : (h'.push (seqObj "list" its.toArray 0)).get? h'.objs.size = some (seqObj "list" its.toArray 0) := Heap.get?_push_size _ rfl
  show wpAny _ _ _ _ _ { s with heap := h'.push (seqObj "list" its.toArray 0) }
  obtain ⟨e1, e2⟩ := dpAll_each I1 hd rv
  have er' : EachIs (fun v b => ∃ as, Reads (PySem.W.sortingHeap (h'.push (seqObj "list" its.toArray 0)) h'.objs.size its) v b.2 as) its (vs.zip ps) :=
    e2.mono fun _ _ ⟨as, r⟩ => ⟨as, PyProof.Rows.Reads.keeps (fun b o e => PySem.W.sortingHeap_old (Nat.ne_of_lt (Heap.lt_size e)) (Heap.get?_push_of_some _ e)) r⟩
  have el := dpAll_len hd
  have ez : (vs.zip ps).map (fun b => b.2) = ps := zip_snd el
  have hlz : (vs.zip ps).length = its.length := e1.length.symm
  have S := sortsAt (prog := X.prog) (w := X.w) (A := X.A.in1.in1) (s := { s with heap := PySem.W.sortingHeap (h'.push (seqObj "list" its.toArray 0)) h'.objs.size its })
    (PySem.W.each_map (R := fun v d => ∃ as, Reads (PySem.W.sortingHeap (h'.push (seqObj "list" its.toArray 0)) h'.objs.size its) v d as) (fun b : V × PyData => b.2) er') (by rw [ez]; exact hal) (by rw [ez]; exact hk) (fun p hp => by
      rw [ez] at hp
      have := hdp p hp
      have := hr.un
      show X.A.units + 1 + 1 + _ < _
      omega)
  refine wpAny_bind (wpAny_holding (wpAny_call_entry PyProof.Rows.slot_list_sort ⟨_, hoL, rfl⟩ PyProof.Rows.entry_list_sort
    (PySem.W.list_sort_vals (s := { s with heap := h'.push (seqObj "list" its.toArray 0) }) hoL S hacl ⟨_, rfl, ?_⟩) (PyProof.Rows.args_list_sort _)))
  generalize hout : PySem.W.sortVals (PySem.W.dataKind (PySem.W.sortingHeap (h'.push (seqObj "list" its.toArray 0)) h'.objs.size its) ((vs.zip ps).map fun b => b.2)) false its its = out
  have so := PySem.W.sortVals_data false (enc := fun b : V × PyData => b.2) e1 er' (by rw [ez]; exact hal)
  rw [hout] at so
  obtain ⟨e', he'⟩ := PyProof.Rows.sortedHeap_at (vs := its) (out := out.toArray) hoL
  have hlen : (((vs.zip ps).mergeSort (dataLe false fun b => b.2)).map (·.1)).length ≤ sizeLine := by
    rw [List.length_map, List.length_mergeSort, hlz]; exact hacl
  refine wpAny_pure ⟨_, rfl, .ref h'.objs.size, upd H h'.objs.size (.lst (((vs.zip ps).mergeSort (dataLe false fun b => b.2)).map (·.1))), I1.laid (t' := s.toks) (fun b u e => ?_) (Nat.le_refl _)
    (show ObjOk X.prog X.w _ _ _ (.lst (((vs.zip ps).mergeSort (dataLe false fun b => b.2)).map (·.1))) from ⟨hlen, out, e', each_vals so, he'⟩), rfl, q _ (I1.hok.fresh (Nat.le_refl _))⟩
  have hb : b < h'.objs.size := Heap.lt_size e
  rw [PyProof.Rows.sortedHeap_old (Nat.ne_of_lt hb) (by rw [size_push']; exact Nat.lt_succ_of_lt hb)]
  exact Heap.get?_push_of_some _ e
def rSortDI : List V → Hp → VK → Prop := fun xs H Q => ∃ (a : Addr) (kvs : List (Key × V)) (ks : List Int), xs = [.ref a] ∧ Rd H a (.dK kvs) ∧ kvs.map (·.1) = ks.map Sum.inl ∧ ks.length < 64 ∧
    ∀ (ys : List Int) (p : Addr), ys.Perm ks → ys.Pairwise (· ≤ ·) → H p = none → Q (.ref p) (upd H p (.lst (ys.map V.int)))
def rSortA (K : PySem.W.Frag) : List V → Hp → VK → Prop := fun xs H Q => rSortD K xs H Q ∨ rSortDI xs H Q ∨ rSortT xs H Q ∨ rSortU K xs H Q
theorem cr_sortA {X : Cx} {k : Nat} (hr : Room k X.A) (hc : X.calm = true) : CallR X (.builtin "sorted") (rSortA X.K) := (cr_sortD hr).or ((call_sortedDI hc).or ((cr_sortT hr hc).or (cr_sortU hr)))
def rLenA (K : PySem.W.Frag) (C : Addr) (sp : Sp) : List V → Hp → VK → Prop := fun xs H Q => (∃ x n, xs = [x] ∧ LenV K x H n ∧ Q (.int n) H) ∨ rLenO C sp xs H Q
theorem call_lenA {X : Cx} {k : Nat} {f C : Addr} {fd : FuncData} {ps : List Str} {sp : Sp} (m : Meth X.K C "__len__" f) (F : FnOk X.prog X.w X.K X.mg X.base CX0 k f fd ps sp) (hr : Room (k + 1) X.A) (hb : Binds X.K fd ps []) : CallR X (.builtin "len") (rLenA X.K C sp) := call_len.or (call_lenO m F hr hb)
end MH
namespace ML
open PySem PySem.Spec PyProof.Rows L2
section
variable {u : Uv} {W : WX} {b : List Nat} {B G0 G G' H H' : Hp} {σ : L2.St} {ε : Env}
def keyInts : List Key → Option (List Int)
  | [] => some []
  | .inl i :: ks => (keyInts ks).map fun l => i :: l
  | .inr _ :: _ => none
theorem keyInts_map : ∀ {ks : List Key} {ns : List Int}, keyInts ks = some ns → ks = ns.map Sum.inl
  | [], ns, h => by cases h; rfl
  | .inl i :: ks, ns, h => by
    simp only [keyInts] at h
    cases hk : keyInts ks with
    | none => rw [hk] at h; cases h
    | some l => rw [hk] at h; cases h; rw [keyInts_map hk]; rfl
  | .inr _ :: _, ns, h => by cases h
def sortI (ns : List Int) : List Int := ns.mergeSort (fun a b => decide (a ≤ b))
theorem sortI_of {ys ns : List Int} (p : ys.Perm ns) (h : ys.Pairwise (· ≤ ·)) : ys = sortI ns := by
  have h1 : (sortI ns).Pairwise (· ≤ ·) := by
    have := List.pairwise_mergeSort (le := fun a b : Int => decide (a ≤ b)) (fun a b c h1 h2 => by simp only [decide_eq_true_eq] at *; omega) (fun a b => by simp only [Bool.or_eq_true, decide_eq_true_eq]; omega) ns
    exact this.imp (by intro a b h; simpa using h)
  exact List.Perm.eq_of_pairwise (le := (· ≤ ·)) (fun a b _ _ h1 h2 => by omega) h h1 (p.trans (List.mergeSort_perm _ _).symm)
def keyD : Key → D
  | .inl i => .int i
  | .inr z => .str z
def tupD (k : List Key) : D := .tup (k.map keyD)
theorem rep_keys : ∀ (k : List Key), RepL u G (k.map keyD) (k.map kV)
  | [] => by simp [RepL]
  | .inl i :: k => ⟨_, _, rfl, rep_int.mpr rfl, rep_keys k⟩
  | .inr z :: k => ⟨_, _, rfl, rep_str.mpr rfl, rep_keys k⟩
def okT (ks : List (List Key)) : Bool := ks.all fun k => ks.all fun k' => PySem.W.alike (MH.keyPy k) (MH.keyPy k')
def sortT (ks : List (List Key)) : List (List Key) := ks.mergeSort (PySem.W.dataLe false MH.keyPy)
def learn (G H : Hp) (bs : List Addr) : Hp := fun a => if a ∈ bs then H a else G a
theorem learn_ex {bs : List Addr} (e : Ex G H) : Ex G (learn G H bs) := fun a o h => by
  unfold learn; split
  · exact e a o h
  · exact h
theorem learn_gh {bs : List Addr} (e : Ex G H) : Ex (learn G H bs) H := fun a o h => by
  unfold learn at h; split at h
  · exact h
  · exact e a o h
theorem learn_nw {bs : List Addr} (e : Ex G H) (hb : ∀ b ∈ bs, ∃ vs, H b = some (.tup vs)) : Nw H G (learn G H bs) := fun a o h => by
  unfold learn
  by_cases ha : a ∈ bs
  · obtain ⟨vs, q⟩ := hb a ha
    rw [h] at q
    exact .inr ⟨vs, by cases q; rfl⟩
  · exact .inl (if_neg ha)
theorem keys_tup {kvs : List (List Key × V)} {bs : List Addr} (h : IsKeys H kvs bs) : ∀ b ∈ bs, ∃ vs, H b = some (.tup vs) := by
  induction h with
  | nil => intro b hb; cases hb
  | cons p t ih =>
    intro b hb
    rcases List.mem_cons.1 hb with rfl | hb
    · exact ⟨_, p⟩
    · exact ih b hb
theorem keys_zip {kvs : List (List Key × V)} {bs : List Addr} (h : IsKeys H kvs bs) : ∀ z ∈ bs.zip kvs, z.1 ∈ bs ∧ H z.1 = some (.tup (z.2.1.map kV)) := by
  induction h with
  | nil => intro z hz; simp at hz
  | cons p t ih =>
    intro z hz
    rcases List.mem_cons.1 hz with rfl | hz
    · exact ⟨by simp, p⟩
    · obtain ⟨h1, h2⟩ := ih z hz
      exact ⟨by simp [h1], h2⟩
theorem rep_refs {bs : List Addr} (e : Ex G H) : ∀ (l : List (Addr × (List Key × V))), (∀ z ∈ l, z.1 ∈ bs ∧ H z.1 = some (.tup (z.2.1.map kV))) → RepL u (learn G H bs) (l.map fun z => tupD z.2.1) (l.map fun z => V.ref z.1)
  | [], _ => by simp [RepL]
  | z :: l, h => by
    obtain ⟨h1, h2⟩ := h z (by simp)
    refine ⟨_, _, rfl, rep_tup.mpr ⟨z.1, _, rfl, ?_, rep_keys _⟩, rep_refs e l fun y hy => h y (by simp [hy])⟩
    unfold learn
    rw [if_pos h1]; exact h2
theorem zip_keys {ks : List (List Key)} {ws : List V} {bs : List Addr} (h : ks.length = ws.length) (hb : bs.length = ks.length) : (bs.zip (ks.zip ws)).map (fun z => z.2.1) = ks := by
  have : (bs.zip (ks.zip ws)).map (fun z => z.2) = ks.zip ws := List.map_snd_zip (by rw [List.length_zip]; omega)
  have e : (bs.zip (ks.zip ws)).map (fun z => z.2.1) = ((bs.zip (ks.zip ws)).map (fun z => z.2)).map (·.1) := by rw [List.map_map]; rfl
  rw [e, this]
  exact List.map_fst_zip (by omega)
def sortAD : List D → Option D := oneD fun
  | .lst ds => if sortOk ds = true then some (.lst (sortL ds)) else none
  | .dk ks _ => (keyInts ks).bind fun ns => if ns.length < 64 then some (.lst ((sortI ns).map .int)) else none
  | .dt ks _ => if okT ks = true then some (.lst ((sortT ks).map tupD)) else none
  | .tup ds => if sortOk ds = true then some (.lst (sortL ds)) else none
  | _ => none
theorem zip_fst {α β : Type} : ∀ {ks : List α} {ws : List β}, ks.length = ws.length → (ks.zip ws).map (·.1) = ks
  | [], [], _ => rfl
  | _ :: _, _ :: _, h => by simp only [List.zip_cons_cons, List.map_cons]; rw [zip_fst (by simpa using h)]
  | [], _ :: _, h => by cases h
  | _ :: _, [], h => by cases h
theorem rc_sortA : RzC u (MH.rSortA u.K) sortAD := rc_one fun x d z G H Q r hz eg k => by
  cases d with
  | lst ds => exact .inl (rc_sorted [x] [.lst ds] z G H Q (RepL.one r) hz eg k)
  | dk ks ws =>
    simp only at hz
    cases hk : keyInts ks with
    | none => rw [hk] at hz; cases hz
    | some ns =>
      rw [hk] at hz
      simp only [Option.bind_some] at hz
      split at hz
      · cases hz
        simp only [Rep] at r
        obtain ⟨a, vs, rfl, a1, a2, a3⟩ := r
        refine .inr (.inl ⟨a, _, ns, rfl, .inl (eg _ _ a1), ?_, by assumption, fun ys p h1 h2 hp => ?_⟩)
        · rw [zip_fst a2]; exact keyInts_map hk
        · rw [sortI_of h1 h2]
          exact Kon.new k eg hp (rep_lst.mpr ⟨p, _, rfl, upd_same, repL_ints⟩)
      · cases hz
  | dt ks ws =>
    simp only at hz
    split at hz
    · rename_i hok
      cases hz
      simp only [Rep] at r
      obtain ⟨a, vs, rfl, a1, a2, a3⟩ := r
      refine .inr (.inr (.inl ⟨a, ks.zip vs, rfl, .inl (eg _ _ a1), ?_, fun p bs hp hk => ?_⟩))
      · intro x hx y hy
        obtain ⟨kv, h1, rfl⟩ := List.mem_map.1 hx
        obtain ⟨kv', h1', rfl⟩ := List.mem_map.1 hy
        simp only [okT, List.all_eq_true] at hok
        exact hok _ (List.of_mem_zip h1).1 _ (List.of_mem_zip h1').1
      · have hbl : bs.length = ks.length := by
          have := MH.isKeys_len hk
          rw [List.length_zip] at this; omega
        have es : (sortT ks).map tupD = ((bs.zip (ks.zip vs)).mergeSort (PySem.W.dataLe false fun b => MH.keyPy b.2.1)).map fun z => tupD z.2.1 := by
          have e1 : sortT ks = ((bs.zip (ks.zip vs)).mergeSort (PySem.W.dataLe false fun b => MH.keyPy b.2.1)).map fun z => z.2.1 := by
            unfold sortT
            conv => lhs; rw [← zip_keys (bs := bs) a2 hbl]
            rw [List.map_mergeSort]
            intro x _ y _
            rfl
          rw [e1, List.map_map]; rfl
        have rr := rep_refs (u := u) eg ((bs.zip (ks.zip vs)).mergeSort (PySem.W.dataLe false fun b => MH.keyPy b.2.1)) fun z hz => keys_zip hk z (List.mem_mergeSort.1 hz)
        have eL := learn_gh (bs := bs) eg
        have eN : Ex (learn G H bs) (upd (learn G H bs) p (.lst (((bs.zip (ks.zip vs)).mergeSort (PySem.W.dataLe false fun b => MH.keyPy b.2.1)).map fun b => V.ref b.1))) := Ex.upd (eL.free hp)
        refine k _ (upd (learn G H bs) p _) _ ((learn_ex eg).trans eN) (Ex.upd hp) eL.both ((learn_nw eg (keys_tup hk)).trans (Nw.of fun x o h => upd_ne (ne_of_none h hp))) (rep_lst.mpr ⟨p, _, rfl, upd_same, ?_⟩)
        rw [es]
        exact RepL.mono eN _ rr
    · cases hz
  | tup ds =>
    simp only at hz
    split at hz
    · cases hz
      rename_i hs
      obtain ⟨h1, h2, h3, h4⟩ := sortOk_prop hs
      obtain ⟨a, vs, rfl, a1, a2⟩ := rep_tup.mp r
      exact .inr (.inr (.inr ⟨a, vs, toPyL ds, rfl, ex_t eg a1, rep_dpL ds (canAll h4) a2 eg, h1, h2, h3, fun p hp => Kon.new k eg hp (rep_lst.mpr ⟨p, _, rfl, upd_same, RepL.mono (Ex.upd (eg.free hp)) _ (sort_rep a2)⟩)⟩))
    · cases hz
  | _ => cases hz
def lookN (fs : List Str) (ds : List D) (f : Str) : Option D := valD fs ds f
theorem lookup_val {α : Type} [BEq α] [LawfulBEq α] [DecidableEq α] {β : Type} {k : α} : ∀ {l : List (α × β)}, l.lookup k = (l.find? fun p => decide (p.1 = k)).map (·.2)
  | [] => rfl
  | (a, b) :: l => by
    by_cases h : a = k
    · subst h; simp [List.lookup, List.find?_cons]
    · have h' : (k == a) = false := by simpa using (Ne.symm h)
      simp only [List.lookup, h', List.find?_cons, decide_eq_false h, lookup_val]
theorem lookN_rep {fs : List Str} {ds : List D} {ws : List V} {f : Str} {d : D} (r : RepL u G ds ws) (hl : fs.length = ws.length) (h : lookN fs ds f = some d) : ∃ v, (fs.zip ws).lookup f = some v ∧ Rep u G d v := by
  rcases valD_rep (k := f) r hl with ⟨z1, z2⟩ | ⟨d', v, z1, z2, z3⟩
  · unfold lookN at h; rw [z1] at h; cases h
  · unfold lookN at h
    rw [z1] at h
    cases h
    exact ⟨v, by rw [lookup_val]; exact z2, z3⟩
def fldF (g : Env → Out D) (c : Nat) (f : Str) : Env → Out D := fun ε => (g ε).bnd fun d ε1 => match d with
  | .obj c' fs ds => if c' = c then Out.opt (lookN fs ds f) ε1 else .bad
  | _ => .bad
theorem rz_fld {te : TE} {g : Env → Out D} {c : Nat} {f : Str} (h : RzE u W te g) (hc : Cls u.K (u.cl c)) (hn : NoAttr u.K (u.cl c) f) : RzE u W (tFld u.K te f) (fldF g c f) := fun B G0 G H σ ε Q R q =>
  h _ _ _ _ _ _ _ R (q.bnd.mono fun d ε1 G1 H1 e1 R1 h1 v rv => by
    cases d with
    | obj c' fs ds =>
      by_cases hcc : c' = c
      · subst hcc
        simp only [if_true] at h1
        obtain ⟨z, hz, h2⟩ := h1.opt
        simp only [Rep] at rv
        obtain ⟨a, dx, ws, rfl, a1, a2, a3⟩ := rv
        obtain ⟨y, y1, y2⟩ := lookN_rep a3 a2 hz
        exact ⟨a, _, dx, _, y, rfl, R1.gh _ _ a1, hc, hn, y1, h2.ret R1 y y2⟩
      · simp only [if_neg hcc] at h1; exact h1.elim
    | _ => exact h1.elim)
theorem putF_set {f : Str} {d : D} {v : V} (rv : Rep u G d v) : ∀ {fs : List Str} {ds : List D} {ws : List V}, RepL u G ds ws → fs.length = ws.length → ∃ (gs : List Str) (es : List D) (ws' : List V), gs = (if f ∈ fs then fs else fs ++ [f]) ∧ RepL u G es ws' ∧ gs.length = ws'.length ∧ putF f v (fs.zip ws) = gs.zip ws' ∧ es = (if f ∈ fs then ds.set (fs.idxOf f) d else ds ++ [d])
  | [], [], ws, r, h => by
    simp only [RepL] at r; subst r
    exact ⟨[f], [d], [v], by simp, RepL.one rv, rfl, rfl, by simp⟩
  | [], _ :: _, ws, r, h => by
    simp only [RepL] at r
    obtain ⟨_, _, rfl, _⟩ := r
    cases h
  | g :: fs, [], ws, r, h => by simp only [RepL] at r; subst r; cases h
  | g :: fs, e :: ds, ws, r, h => by
    simp only [RepL] at r
    obtain ⟨w, rr, rfl, r1, r2⟩ := r
    by_cases hg : g = f
    · subst hg
      refine ⟨g :: fs, d :: ds, v :: rr, by simp, ⟨v, rr, rfl, rv, r2⟩, by simpa using h, by simp [putF], by simp⟩
    · obtain ⟨gs, es, ws', h1, h2, h3, h4, h5⟩ := putF_set rv r2 (fs := fs) (by simpa using h)
      have hm : (f ∈ g :: fs) ↔ f ∈ fs := by simp [Ne.symm hg]
      refine ⟨g :: gs, e :: es, w :: ws', ?_, ⟨w, ws', rfl, r1, h2⟩, by simp [h3], (by show (if g = f then _ else (g, w) :: putF f v (fs.zip rr)) = _; rw [if_neg hg, h4]; rfl), ?_⟩
      · by_cases hf : f ∈ fs
        · rw [if_pos (hm.mpr hf), h1, if_pos hf]
        · rw [if_neg fun q => hf (hm.mp q), h1, if_neg hf]; rfl
      · by_cases hf : f ∈ fs
        · rw [if_pos (hm.mpr hf), h5, if_pos hf]; simp [List.idxOf_cons, beq_false_of_ne hg]
        · rw [if_neg fun q => hf (hm.mp q), h5, if_neg hf]; rfl
def putN (fs : List Str) (ds : List D) (f : Str) (d : D) : List Str × List D := (if f ∈ fs then fs else fs ++ [f], if f ∈ fs then ds.set (fs.idxOf f) d else ds ++ [d])
def sfldF (i : Nat) (c : Nat) (f : Str) (g : Env → Out D) : Env → SO := fun ε => (g ε).toS fun d ε1 => match ownAt i ε1 with
  | some (.obj c' fs ds) => if c' = c ∧ fs.length < 100 then .nx (ε1.set i (.ow (.obj c' (putN fs ds f d).1 (putN fs ds f d).2))) else .bad
  | _ => .bad
theorem rs_fld {i c : Nat} {f : Str} {te : TE} {g : Env → Out D} (h : RzE u W te g) (hc : Cls u.K (u.cl c)) (hn : NoAttr u.K (u.cl c) f) : RzS u W b (sFld u.K (tVar i) te f) (sfldF i c f g) := fun B G0 G H σ ε N R q =>
  h _ _ _ _ _ _ _ R (q.bnd.mono fun d ε1 G1 H1 e1 R1 h1 v rv => by
    cases e0 : ownAt i ε1 with
    | none => simp only [e0] at h1; exact h1.elim
    | some x =>
      cases x with
      | obj c' fs ds =>
        simp only [e0] at h1
        by_cases hcc : c' = c ∧ fs.length < 100
        · rw [if_pos hcc] at h1
          obtain ⟨rfl, hl⟩ := hcc
          obtain ⟨l, a1, a2, a3, dx, ws, a4, a5, a6⟩ := R1.own (ownAt_some e0)
          obtain ⟨gs, es, ws', p1, p2, p3, p4, p5⟩ := putF_set (f := f) rv a6 a5
          refine ⟨_, a1, l, _, dx, _, rfl, a4, hc, hn, ?_, ?_⟩
          · rw [List.length_zip]; omega
          · rw [p4]
            have eg : (putN fs ds f d).1 = gs := p1.symm
            refine h1.next (R1.put (ownAt_some e0) a1 a2 ⟨dx, ws', by rw [eg]; exact upd_same, ?_, ?_⟩) .refl
            · rw [eg]; exact p3
            · show RepL u G1 (putN fs ds f d).2 ws'
              rw [show (putN fs ds f d).2 = es from p5.symm]; exact p2
        · rw [if_neg hcc] at h1; exact h1.elim
      | _ => simp only [e0] at h1; exact h1.elim)
def makeM (c n : Nat) (fa : Env → Out (List D)) (F : D → List D → RtM) : Env → Out Sl := fun ε => (fa ε).bnd fun ds ε1 => if ds.length = n then (match F (.obj c [] []) ds with
  | .ret .non d1 => .ok (.ow d1) ε1
  | _ => .bad) else .bad
theorem rzm_make {c n : Nat} {E : XK} {ta : TA} {fa : Env → Out (List D)} {F : D → List D → RtM} (ha : RzA u W ta fa) : RzM u W (tMake (u.cl c) (SpM u n F) [] E ta) (makeM c n fa F) := fun B G0 G H σ ε Q R q =>
  ha _ _ _ _ _ _ _ R (q.bnd.mono fun ds ε1 G1 H1 e1 R1 h1 vs rvs x dx hx hdx hne => by
    by_cases hn : ds.length = n
    · simp only [if_pos hn] at h1
      have fx := R1.free hx
      have eB : Ex H1 (upd H1 dx (.own x)) := Ex.upd hdx
      have hBx : upd H1 dx (HO.own x) x = none := by rw [upd_ne (Ne.symm hne)]; exact hx
      have eH : Ex (upd H1 dx (.own x)) (upd (upd H1 dx (.own x)) x (.ins (u.cl c) dx [])) := Ex.upd hBx
      refine spM_of ⟨upd H1 dx (.own x), G1, x, .obj c [] [], ds, vs, hn, by simp, (R1.gh.trans eB).trans eH, eH, fx.1, hBx, ⟨dx, [], upd_same, rfl, by simp [RepL]⟩, rvs, ?_⟩
      cases ef : F (.obj c [] []) ds with
      | bad => rw [ef] at h1; exact h1.elim
      | ret d d1 =>
        rw [ef] at h1
        cases d with
        | non =>
          intro v G' H' eg nw gh bh hg ho rv
          exact ⟨rep_non.mp rv, h1.ret' eg (R1.grow eg (nw.less eB) (eB.trans bh) gh) _ ⟨x, rfl, hg, fx.2.1, ho, apart_new R1 hx⟩⟩
        | _ => exact h1.elim
    · simp only [if_neg hn] at h1; exact h1.elim)
def lenA (c : Nat) (F : List D → Rt) : List D → Option D := oneD fun d => match d with
  | .obj c' fs ds => if c' = c then (match F [d] with
    | .ret (.int n) => if 0 ≤ n ∧ n < 2 ^ 63 then some (.int n) else none
    | _ => none) else none
  | d => (lenN d).map fun n => .int (n : Nat)
theorem rc_lenA {c : Nat} {F : List D → Rt} : RzC u (MH.rLenA u.K (u.cl c) (SpF u 1 F)) (lenA c F) := rc_one fun x d z G H Q r hz eg k => by
  cases d with
  | obj c' fs ds =>
    simp only at hz
    split at hz
    · rename_i hc
      subst hc
      have r0 := r
      simp only [Rep] at r
      obtain ⟨a, dx, ws, rfl, a1, a2, a3⟩ := r
      refine .inr ⟨a, dx, _, rfl, eg _ _ a1, spF_of ⟨H, G, [.obj c' fs ds], rfl, eg, Ex.refl _, RepL.one r0, ?_⟩⟩
      cases ef : F [.obj c' fs ds] with
      | bad => rw [ef] at hz; cases hz
      | exn x => rw [ef] at hz; cases hz
      | ret d1 =>
        rw [ef] at hz
        cases d1 with
        | int n =>
          simp only at hz
          split at hz
          · cases hz
            rename_i hn
            exact fun v G' H' e1 nw e2 e3 rv => ⟨n, rep_int.mp rv, hn.1, hn.2, k v G' H' e1 e3 e2 nw rv⟩
          · cases hz
        | _ => cases hz
    · cases hz
  | _ =>
    first
      | (cases hz; done)
      | exact .inl (rc_len [x] _ z G H Q (RepL.one r) hz eg k)
def strsD : List D → Option (List Str)
  | [] => some []
  | .str s :: ds => (strsD ds).map fun l => s :: l
  | _ => none
def joinS (a : Str) (ys : List Str) : Option D := if (ys.map (·.length)).sum + ys.length * a.length ≤ 100000 then some (.str (Txt.join a ys)) else none
def joinF (f g : Env → Out D) : Env → Out D := fun ε => (f ε).bnd fun a ε1 => match a with
  | .str a => (g ε1).bnd fun d ε2 => (match d with
    | .lst ds => Out.opt ((strsD ds).bind (joinS a)) ε2
    | .tup ds => Out.opt ((strsD ds).bind (joinS a)) ε2
    | _ => .bad)
  | _ => .bad
end
end ML
end
section
set_option Elab.async false
set_option linter.all false
set_option maxRecDepth 100000
set_option maxHeartbeats 2000000
set_option autoImplicit false
namespace MH
open PySem PySem.Spec PyProof.Rows L2
section
variable {X : Cx} {K : PySem.W.Frag}
theorem pe_fldK (hK : X.K = K) {e : Expr} {f : Str} {pos : Pos} {ta : TE} (he : PE X e ta) (hb : attributeBase e f X.env (eval e X.env) = eval e X.env) : PE X (.Attribute e f pos) (tFld K ta f) := by subst hK; exact pe_fld he hb
theorem pg_tupK (hK : X.K = K) {es : List Expr} {k : Nat} {t : TGs} {n : Nat} {pos : Pos} (hc : X.calm = true) (h : PGs X es t) (hn : (assignEach es X.env).length = n := by rfl) (hst : (assignEach es X.env).findIdx? (·.1) = none := by rfl) : PG X (.Tuple es k pos) (gTup K n t) := by subst hK; exact pg_tup hc h hn hst
theorem pi_anyK (hK : X.K = K) {tg l : Expr} {tl : TE} (hl : PE X l tl) : PI X tg l (iAny K tl) := by subst hK; exact pi_any hl
theorem pi_enumK (hK : X.K = K) {e : Expr} {ta : TA} {p pos tpos : Pos} {elts : List Expr} {kk : Nat} (hg : Gl X "enumerate") (hm : X.mg "enumerate" = none) (ha : PA X [e] ta) (hs : starEach [e] X.env = [(false, eval e X.env)] := by rfl) :
    PI X (.Tuple elts kk tpos) (.Call (.Name "enumerate" p) [e] [] pos) (iEnumA K ta) := by subst hK; exact pi_enumA hg hm ha hs
theorem pa_starK (hK : X.K = K) {e : Expr} {es : List Expr} {te : TE} {t : TA} {p : Pos} (hc : X.calm = true) (he : PE X e te) (hr : PA X es t) (hs : starEach (.Starred e p :: es) X.env = (true, eval e X.env) :: starEach es X.env := by rfl) : PA X (.Starred e p :: es) (tStarA K te t) := by subst hK; exact pa_starA hc he hr hs
def rLen0 (K : PySem.W.Frag) : List V → Hp → VK → Prop := fun xs H Q => ∃ x n, xs = [x] ∧ LenV K x H n ∧ Q (.int n) H
def rTuple (K : PySem.W.Frag) : List V → Hp → VK → Prop := fun xs H Q => ∃ p ys, xs = [.ref p] ∧ ((SqL K H p ys ∧ ∀ l, H l = none → Q (.ref l) (upd H l (.tup ys))) ∨ (SqT K H p ys ∧ Q (.ref p) H))
def rList (K : PySem.W.Frag) : List V → Hp → VK → Prop := fun xs H Q => ∃ p ys, xs = [.ref p] ∧ (SqL K H p ys ∨ SqT K H p ys) ∧ ∀ l, H l = none → Q (.ref l) (upd H l (.lst ys))
end
end MH
namespace ML
open PySem PySem.Spec PyProof.Rows L2
def clsChk (K : PySem.W.Frag) (C : Addr) : Bool :=
  He.eqO (PySem.W.findIn K (.ref C) "__class__") (some (some (.builtin "object.__class__"))) && (He.eqO (PySem.W.specialIn K (.builtin "object.__class__") "__get__") (some (some (.builtin "getset_descriptor.__get__"))) &&
  (decide (PySem.W.takesIn K (.builtin "object.__class__") = some true) && (decide (PySem.W.mroIn K C (.type "object") = some true) &&
  ((["int", "bool", "str", "tuple", "list", "dict"].all fun T => decide (PySem.W.kitOne K (.ref C) (.type T) = some false)) && (decide (PySem.W.kitOne K (.ref C) (.ref C) = some true) &&
  (["NoneType", "int", "bool", "str", "tuple", "list", "dict"].all fun T => decide (PySem.W.kitOne K (.type T) (.ref C) = some false)))))))
theorem clsOk_of {K : PySem.W.Frag} {C : Addr} (c : Cls K C) (h : clsChk K C = true) : ClsOk K C := by
  unfold clsChk at h
  simp only [Bool.and_eq_true, decide_eq_true_eq, List.all_eq_true] at h
  obtain ⟨h1, h2, h3, h4, h5, h6, h7⟩ := h
  exact ⟨c, He.eqO_ok h1, He.eqO_ok h2, h3, h4, h5, h6, h7⟩
def FnX (P : Program) (w : World) (K : PySem.W.Frag) (mg : Str → Option Value) (base : Heap) (k : Nat) (ps : List Str) (sp : Sp) (L : Addr → Prop) : Prop :=
  ∃ f fd, FnOk P w K mg base CX0 k f fd ps sp ∧ L f ∧ PySem.W.keepIn K (.ref f) = true ∧ Binds K fd ps []
theorem law_sp {u : Uv} {F : List D → Rt} {n : Nat} (h : ∀ ns : List Int, ns.length ≤ n → F [.scr ns] = .ret (.bl true)) (H : Hp) (a : Addr) (ns : List Int) (hl : ns.length ≤ n) (hS : SqL u.K H a (ns.map V.int)) :
    SpF u 1 F [.ref a] H (fun v _ => v = .bl true) fun _ _ _ => False := by
  refine spF_of ⟨fun _ => none, H, [.scr ns], rfl, Ex.refl _, (fun _ _ h => nomatch h), RepL.one (rep_scr.mpr ⟨a, rfl, hS⟩), ?_⟩
  rw [h ns hl]
  exact fun v G' H' _ _ _ _ r => rep_bl.mp r
section
variable {u : Uv} {W : WX} {b : List Nat} {B G0 G G' H H' : Hp} {σ : L2.St} {ε : Env}
theorem rt_yes : RzT u W tYes tYesF := fun B G0 G H σ ε Q R q => q.ret R
end
end ML
end
section
set_option Elab.async false
set_option linter.all false
set_option maxRecDepth 100000
set_option maxHeartbeats 2000000
set_option autoImplicit false
namespace MH
open PySem PySem.Spec PyProof.Rows L2
open PySem.W (AllAlike alike dataLt)
open PySem.SeqAt (RcLt)
section
variable {prog : Program} {w : World} {A : Around} {R : Result → Shared → Prop} {J : Addr} {fp wr : List Addr} {n : Nat} {P : Nat → Value → Prop} {St : Nat → Heap → Prop}
abbrev Stands (h k : Heap) : Prop := ∀ b o, h.get? b = some o → k.get? b = some o
theorem minLoop (W : Walks prog w A.in1 J fp wr n P St) (bt : Nat → Nat → Bool) (hb : Heap) (cmp : ∀ i j vi vj s', P i vi → P j vj → Stands hb s'.heap → RcLt A.in1 s' vi vj (bt i j))
    (Z : Addr) (zf : Z ∉ fp) (jw : ∀ b ∈ wr, hb.get? b = none) (z0 : hb.get? Z = none) : ∀ (k j : Nat) (s : Shared) (vb : Value) (c : Nat), n - (j + 1) = k → j + 1 ≤ n → St (j + 1) s.heap → P (argBest bt j) vb → Stands hb s.heap →
    s.heap.get? Z = some { cls := .type "list", dict := none, data := .seq #[vb, vb] c, slots := #[] } →
    (∀ v h' tk, P (argBest bt (n - 1)) v → Stands hb h' → R (.ok (.ret v)) { s with heap := h', toks := tk }) →
    codeAny (model prog w) A (.builtin "min.loop" ⟨[.ref J, .none, .ref Z], []⟩) R s := by
  have zw : Z ∉ wr := fun h => zf (W.sub _ h)
  have nm : (toString "min" ++ toString ".loop" : String) = "min.loop" := by decide
  have stay : ∀ {k k' : Heap}, Stands hb k → (∀ b o, b ∉ wr → k.get? b = some o → k'.get? b = some o) → Stands hb k' := fun h1 h2 b o e => h2 b o (fun hw => by rw [jw b hw] at e; cases e) (h1 b o e)
  have upd1 : ∀ {k : Heap} {g : Obj → Obj}, Stands hb k → Stands hb (k.update Z g) := fun h1 b o e => (Heap.get?_update_other _ _ (fun h : Z = b => by subst h; rw [z0] at e; cases e)).trans (h1 b o e)
  intro k
  induction k with
  | zero =>
    intro j s vb c hk hj st pb old hZ hR
    have hin : j + 1 = n := by omega
    refine codeAny_builtin F.entry_min_loop ?_
    rw [Around.under_plainId F.plain_min_loop _]
    show wpAny _ A.in1 (seqItems? (.ref Z) >>= _) _ _ s
    refine wpAny_bind (wpAny_seqItems hZ rfl ?_)
    show wpAny _ A.in1 (tryCatch (pyNext (.ref J)) _ >>= _) _ _ s
    refine wpAny_bind (wpAny_tryCatch (W.done s _ _ (hin ▸ st) fun h' tk kept => ?_))
    have hZ' := kept Z _ zw hZ
    show wpAny _ A.in1 (updateSeq Z (fun _ => #[]) >>= _) _ _ _
    refine wpAny_bind ?_
    refine wpAny_updateSeq hZ' rfl (wpAny_bind (wpAny_letGo (wpAny_pure ?_)))
    exact hR vb _ tk (by rw [← hin]; exact pb) (upd1 (stay old kept))
  | succ k ih =>
    intro j s vb c hk hj st pb old hZ hR
    have hlt : j + 1 < n := by omega
    refine codeAny_builtin F.entry_min_loop ?_
    rw [Around.under_plainId F.plain_min_loop _]
    show wpAny _ A.in1 (seqItems? (.ref Z) >>= _) _ _ s
    refine wpAny_bind (wpAny_seqItems hZ rfl ?_)
    show wpAny _ A.in1 (tryCatch (pyNext (.ref J)) _ >>= _) _ _ s
    refine wpAny_bind (wpAny_tryCatch (W.item (j + 1) s _ _ hlt st fun v h' tk pv st' kept => ?_))
    have hZ' := kept Z _ zw hZ
    have old' := stay old kept
    show wpAny _ A.in1 (tryCatch (holding [v, v] (richCompare .Lt v vb >>= _)) _ >>= _) _ _ _
    refine wpAny_bind (wpAny_tryCatch (wpAny_holding (wpAny_bind (cmp (j + 1) (argBest bt j) v vb { s with heap := h', toks := tk } pv pb old' prog w _ _ ?_))))
    refine wpAny_bind (wpAny_holding (wpAny_truthy_bool ?_))
    refine wpAny_bind (wpAny_letGo (wpAny_pure ?_))
    cases eb : bt (j + 1) (argBest bt j) with
    | true =>
      simp only [if_true]
      refine wpAny_bind ?_
      refine wpAny_updateSeq hZ' rfl (wpAny_bind (wpAny_letGo ?_))
      rw [nm]
      refine wpAny_pure ⟨plainId_quiet F.plain_min_loop _, ih (j + 1) _ v _ (by omega) hlt (W.frame _ _ _ st' fun b hf o e => ?_) (by simp only [argBest, eb, if_true]; exact pv) (upd1 old') (Heap.get?_update_self _ hZ' rfl) fun v' h2 tk2 p2 o2 => hR v' h2 tk2 p2 o2⟩
      exact (Heap.get?_update_other _ _ (fun h : Z = b => zf (by rw [h]; exact hf))).trans e
    | false =>
      simp only [Bool.false_eq_true, if_false]
      refine wpAny_bind (wpAny_letGo ?_)
      rw [nm]
      exact wpAny_pure ⟨plainId_quiet F.plain_min_loop _, ih (j + 1) _ vb c (by omega) hlt st' (by simp only [argBest, eb, Bool.false_eq_true, if_false]; exact pb) old' hZ' fun v' h2 tk2 p2 o2 => hR v' h2 tk2 p2 o2⟩
end
section
variable {prog : Program} {w : World} {A : Around} {E : Value → Shared → Prop} {s : Shared}
theorem minData {l : Addr} {its : List Value} {Q : Value → Shared → Prop} (hh : A.handled = none) (hl : s.heap.IsList l its.toArray) (hne : 0 < its.length) (bt : Nat → Nat → Bool)
    (cmp : ∀ i j vi vj s', its[i]? = some vi → its[j]? = some vj → Stands s.heap s'.heap → RcLt A.in1 s' vi vj (bt i j))
    (h : ∀ v h' tk, its[argBest bt (its.length - 1)]? = some v → Stands s.heap h' → Q v { s with heap := h', toks := tk }) : wpAny (model prog w) A (call (.builtin "min") [.ref l]) Q E s := by
  have nm : (toString "min" ++ toString ".loop" : String) = "min.loop" := by decide
  refine call_function_tree F.kind_min F.plain_min F.entry_min (F.args_min1 _) ?_
  show wpAny _ A.in1 (Builtin.Builtins.bindParams "min" ["key", "default"] 0 ⟨[], []⟩ >>= _) _ _ s
  refine wpAny_bind (wpAny_of_eq (show Builtin.Builtins.bindParams "min" ["key", "default"] 0 ⟨[], []⟩ = pure [none, none] from rfl) ?_)
  refine wpAny_bind (wpAny_pure ?_)
  have hlt : l < s.heap.objs.size := by obtain ⟨_, e, _⟩ := hl; exact Heap.lt_size e
  refine wpAny_bind (wpAny_pyIter_list hl ?_)
  have W := Walks.list (prog := prog) (w := w) (A := A.in1) hh s.heap.objs.size l (Nat.ne_of_lt hlt) its.toArray
  let it0 : Obj := { cls := .type "list_iterator", data := .fields #[.ref l, .int 0 0] }
  have old1 : Stands s.heap (s.heap.push it0) := fun b o e => Heap.get?_push_of_some _ e
  have st1 : (s.heap.push it0).IsListIter s.heap.objs.size l 0 ∧ (s.heap.push it0).IsList l its.toArray := ⟨⟨_, Heap.get?_push_size _ rfl, rfl, rfl⟩, hl.push _⟩
  have fresh : ∀ a, s.heap.objs.size ≤ a → s.heap.get? a = none := fun a ha => by
    cases e : s.heap.get? a with
    | none => rfl
    | some o => exact absurd (Heap.lt_size e) (Nat.not_lt.mpr ha)
  refine wpAny_bind (wpAny_newObj_type ?_)
  rw [nm]
  refine wpAny_pure ⟨plainId_quiet F.plain_min_loop _, ?_⟩
  have sz : (s.heap.push it0).objs.size = s.heap.objs.size + 1 := Heap.size_push _ _
  have zf : (s.heap.push it0).objs.size ∉ [s.heap.objs.size, l] := by
    rw [sz]
    intro hm
    rcases List.mem_cons.mp hm with e | hm
    · exact Nat.succ_ne_self _ e
    · rcases List.mem_cons.mp hm with e | hm
      · exact Nat.lt_irrefl l (Nat.lt_of_lt_of_le hlt (by rw [← e]; exact Nat.le_succ _))
      · cases hm
  have zw : (s.heap.push it0).objs.size ∉ [s.heap.objs.size] := by
    rw [sz]; simp
  have ze : ∀ c : Nat, ((s.heap.push it0).push { cls := .type "list", dict := none, data := .seq #[] c, slots := #[] }).get? (s.heap.push it0).objs.size = some { cls := .type "list", dict := none, data := .seq #[] c, slots := #[] } := fun c => Heap.get?_push_size _ rfl
  refine codeAny_builtin F.entry_min_loop ?_
  rw [Around.under_plainId F.plain_min_loop _]
  show wpAny _ A.in1 (seqItems? (.ref (s.heap.push it0).objs.size) >>= _) _ _ _
  refine wpAny_bind (wpAny_seqItems (ze _) rfl ?_)
  show wpAny _ A.in1 (tryCatch (pyNext (.ref s.heap.objs.size)) _ >>= _) _ _ _
  refine wpAny_bind (wpAny_tryCatch (W.item 0 _ _ _ (by simpa using hne) (W.frame _ _ _ st1 fun b _ o e => Heap.get?_push_of_some _ e) fun v h' tk pv st' kept => ?_))
  have hZ' := kept _ _ zw (ze _)
  have old2 : Stands s.heap h' := fun b o e => kept b o (by
    intro hm
    simp at hm
    subst hm
    rw [fresh _ (Nat.le_refl _)] at e; cases e) (Heap.get?_push_of_some _ (old1 b o e))
  show wpAny _ A.in1 (updateSeq (s.heap.push it0).objs.size (fun _ => #[v, v]) >>= _) _ _ _
  refine wpAny_bind ?_
  refine wpAny_updateSeq hZ' rfl ?_
  rw [nm]
  have z0 : s.heap.get? (s.heap.push it0).objs.size = none := fresh _ (by rw [sz]; omega)
  refine wpAny_pure ⟨plainId_quiet F.plain_min_loop _, minLoop W bt s.heap (fun i j vi vj s' p q o => cmp i j vi vj s' (by simpa using p) (by simpa using q) o) _ zf (fun b hb => by simp at hb; subst hb; exact fresh _ (Nat.le_refl _)) z0 _ 0 _ v _ rfl (by simpa using Nat.succ_le_of_lt hne) (W.frame _ _ _ st' fun b hf o e => ?_) pv (fun b o e => ?_) (Heap.get?_update_self _ hZ' rfl) fun v' h2 tk2 p2 o2 => h v' h2 tk2 (by simpa using p2) o2⟩
  · exact (Heap.get?_update_other _ _ (fun h : (s.heap.push it0).objs.size = b => zf (by rw [h]; exact hf))).trans e
  · exact (Heap.get?_update_other _ _ (fun h : (s.heap.push it0).objs.size = b => by subst h; rw [z0] at e; cases e)).trans (old2 b o e)
end
end MH
namespace MH
open PySem PySem.Spec PyProof.Rows L2
open PySem.W (EachIs AllAlike Sortable alike dataLt)
theorem eachIs_get {R : Value → V × PyData → Prop} : ∀ {us : List Value} {bs : List (V × PyData)}, EachIs R us bs → us.length = bs.length ∧ ∀ (i : Nat) (v : Value), us[i]? = some v → ∃ b, bs[i]? = some b ∧ R v b
  | _, _, .nil => ⟨rfl, fun i v h => by simp at h⟩
  | _, _, .cons r h => by
    obtain ⟨h1, h2⟩ := eachIs_get h
    refine ⟨by simp [h1], fun i v hi => ?_⟩
    cases i with
    | zero => simp at hi; subst hi; exact ⟨_, rfl, r⟩
    | succ i => simpa using h2 i v (by simpa using hi)
theorem ne_none_of_sortable {ps : List PyData} (h : SortableE ps) {p : PyData} (hp : p ∈ ps) : p ≠ .none := by
  rcases h with h | h
  · obtain ⟨xs, e⟩ := h p hp
    rw [e]; intro h'; cases h'
  · exact (h p hp).1
def ltAt (ps : List PyData) (i j : Nat) : Bool := dataLt (ps.getD i .none) (ps.getD j .none)
def rMinD (K : PySem.W.Frag) : List V → Hp → VK → Prop := fun xs H Q => ∃ (a : Addr) (vs : List V) (ps : List PyData), xs = [.ref a] ∧ SqL K H a vs ∧ DpAll K H vs ps ∧ AllAlike ps ∧ SortableE ps ∧ (∀ p ∈ ps, p.depth ≤ 64) ∧ 0 < vs.length ∧
  ∀ x, vs[argBest (ltAt ps) (vs.length - 1)]? = some x → Q x H
theorem cr_minD {X : Cx} {k : Nat} (hr : Room k X.A) (hc : X.calm = true) : CallR X (.builtin "min") (rMinD X.K) := by
  intro pins s σ H xs us Q I r h
  obtain ⟨a, vs, ps, rfl, hs, hd, ha, hk, hdp, hne, q⟩ := h
  obtain ⟨its, rv, hl, hz⟩ := I.list hs
  rw [Vals.ref1 r]
  obtain ⟨e1, e2⟩ := dpAll_each I hd rv
  have el := dpAll_len hd
  obtain ⟨l1, g1⟩ := eachIs_get e1
  obtain ⟨l2, g2⟩ := eachIs_get e2
  have hli : its.length = vs.length := by rw [l1, List.length_zip, el]; omega
  refine minData (I.ok.hd hc) hl.isList (by omega) (ltAt ps) (fun i j vi vj s' hi hj old => ?_) fun v h' tk hv old => ?_
  · obtain ⟨bi, gi, as, ri⟩ := g2 i vi hi
    obtain ⟨bj, gj, as', rj⟩ := g2 j vj hj
    rw [List.getElem?_zip_eq_some] at gi gj
    have mi : bi.2 ∈ ps := List.mem_of_getElem? gi.2
    have mj : bj.2 ∈ ps := List.mem_of_getElem? gj.2
    have ei : ps.getD i .none = bi.2 := by rw [List.getD_eq_getElem?_getD, gi.2]; rfl
    have ej : ps.getD j .none = bj.2 := by rw [List.getD_eq_getElem?_getD, gj.2]; rfl
    unfold ltAt
    rw [ei, ej]
    refine PySem.W.rcLt_alike bi.2 bj.2 _ _ _ _ _ _ (PyProof.Rows.Reads.keeps old ri) (PyProof.Rows.Reads.keeps old rj) (ha _ mi _ mj) (ne_none_of_sortable hk mi) ?_
    have h1 := hdp _ mi
    have h2 := hr.un
    have h3 : min bi.2.depth bj.2.depth ≤ bi.2.depth := Nat.min_le_left _ _
    have h4 : X.A.in1.units ≤ X.A.units + 3 := by first | exact Nat.le_refl _ | (show _ + _ ≤ _ + 3; omega)
    omega
  · obtain ⟨b, gb, rb⟩ := g1 _ v hv
    rw [List.getElem?_zip_eq_some] at gb
    exact ⟨b.1, H, I.kept old, rb, q b.1 (by rw [← hli]; exact gb.1)⟩
end MH
namespace ML
open PySem PySem.Spec PyProof.Rows L2
section
variable {u : Uv}
def minL (ds : List D) : Option D := ds[argBest (MH.ltAt (toPyL ds)) (ds.length - 1)]?
def minD : List D → Option D := oneD fun
  | .lst ds => if sortOk ds = true ∧ 0 < ds.length then minL ds else none
  | _ => none
theorem rc_minD : RzC u (MH.rMinD u.K) minD := rc_one fun x d z G H Q r hz eg k => by
  cases d with
  | lst ds =>
    simp only at hz
    split at hz
    · rename_i hs
      obtain ⟨h1, h2, h3, h4⟩ := sortOk_prop hs.1
      obtain ⟨a, vs, rfl, a1, a2⟩ := rep_lst.mp r
      have hlen := a2.length
      refine ⟨a, vs, toPyL ds, rfl, SqL.of (eg _ _ a1), rep_dpL ds (canAll h4) a2 eg, h1, h2, h3, by have := hs.2; omega, fun x hx => ?_⟩
      unfold minL at hz
      obtain ⟨v, hv, rv⟩ := a2.get hz
      rw [← hlen, hv] at hx
      cases hx
      exact k _ G H (fun _ _ e => e) (fun _ _ e => e) eg Nw.refl rv
    · cases hz
  | _ => cases hz
end
end ML
end
section
set_option Elab.async false
set_option linter.all false
set_option maxRecDepth 100000
set_option maxHeartbeats 2000000
set_option autoImplicit false
namespace ML
open PySem PySem.Spec PyProof.Rows L2
section
variable {u : Uv} {W : WX} {b : List Nat} {B G0 G G' H H' : Hp} {σ : L2.St} {ε : Env}
def SlVs (u : Uv) (B G H : Hp) (σ : L2.St) (ε : Env) : List Sl → List V → Prop
  | [], vs => vs = []
  | s :: ss, vs => ∃ v r, vs = v :: r ∧ SlV u B G H σ ε v s ∧ SlVs u B G H σ ε ss r ∧ ∀ l d, s = .ow d → v = .ref l → ∀ (k : Nat) (d' : D), ss[k]? = some (.ow d') → r[k]? ≠ some (.ref l)
def RzMs (u : Uv) (W : WX) (ta : TA) (f : Env → Out (List Sl)) : Prop := ∀ B G0 G H σ ε Q, RepE u B G0 G H σ ε → Pst u W B G0 σ G (f ε) (fun ss ε' G' H' => ∀ vs, SlVs u B G' H' σ ε' ss vs → Q vs H') → ta σ H Q
def nilMs : Env → Out (List Sl) := fun ε => .ok [] ε
def consMs (f : Env → Out Sl) (fr : Env → Out (List Sl)) : Env → Out (List Sl) := fun ε => (f ε).bnd fun s ε1 => (fr ε1).bnd fun ss ε2 => .ok (s :: ss) ε2
theorem rms_nil : RzMs u W tNil nilMs := fun B G0 G H σ ε Q R q => q G H (Ex.refl _) R [] rfl
theorem slvs_less {l : Addr} {o : HO} (hb : B l = none) : ∀ {ss : List Sl} {vs : List V}, SlVs u (upd B l o) G H σ ε ss vs → SlVs u B G H σ ε ss vs ∧ ∀ (k : Nat) (d : D), ss[k]? = some (.ow d) → vs[k]? ≠ some (.ref l)
  | [], vs, h => ⟨h, fun k d hk => by simp at hk⟩
  | s :: ss, vs, h => by
    obtain ⟨v, r, rfl, h1, h2, h3⟩ := h
    obtain ⟨i1, i2⟩ := slvs_less hb h2
    cases s with
    | no => exact h1.elim
    | xn x => exact h1.elim
    | fz d =>
      refine ⟨⟨v, r, rfl, h1, i1, h3⟩, fun k d' hk => ?_⟩
      cases k with
      | zero => simp at hk
      | succ k => simpa using i2 k d' (by simpa using hk)
    | ow d =>
      obtain ⟨m, rfl, hg, hbm, w, ap⟩ := h1
      have hm : m ≠ l := fun q => by subst q; rw [upd_same] at hbm; cases hbm
      have hbm' : B m = none := by rw [upd_ne hm] at hbm; exact hbm
      refine ⟨⟨.ref m, r, rfl, ⟨m, rfl, hg, hbm', w, ap⟩, i1, h3⟩, fun k d' hk => ?_⟩
      cases k with
      | zero => simp; exact hm
      | succ k => simpa using i2 k d' (by simpa using hk)
theorem rms_cons {ta : TE} {tr : TA} {f : Env → Out Sl} {fr : Env → Out (List Sl)} (ha : RzM u W ta f) (hr : RzMs u W tr fr) : RzMs u W (tCons ta tr) (consMs f fr) := fun B G0 G H σ ε Q R q =>
  ha _ _ _ _ _ _ _ R (q.bnd.mono fun s ε1 G1 H1 e1 R1 h1 v sv => by
    cases s with
    | no => exact sv.elim
    | xn x => exact sv.elim
    | fz d =>
      refine hr _ _ _ _ _ _ _ R1 (h1.bnd.mono fun ss ε2 G2 H2 e2 R2 h2 vs sw => ?_)
      exact h2 G2 H2 (Ex.refl _) R2 _ ⟨v, vs, rfl, sv.mono e2, sw, fun l d e => by cases e⟩
    | ow d =>
      obtain ⟨l, rfl, hg, hb', w', ap⟩ := sv
      obtain ⟨o, ho⟩ := Own.has w'
      have R1' := R1.aside hg ho ap (w'.nt ho)
      refine hr _ _ _ _ _ _ _ R1' ((h1.bnd.less (Ex.upd hb')).mono fun ss ε2 G2 H2 e2 R2 h2 vs sw => ?_)
      obtain ⟨b1, b2, b3, b4⟩ := R2.back hb' (R1.g0.free hg) (w'.ntup ho)
      have w2 : Own u G2 H2 l d := w'.mono e2 fun x q => by rw [ho] at q; cases q; exact b2
      obtain ⟨s1, s2⟩ := slvs_less hb' sw
      exact h2 G2 H2 (Ex.refl _) b4 _ ⟨.ref l, vs, rfl, ⟨l, rfl, b1, hb', w2, b3⟩, s1, fun l' d' e e' k d2 hk => by cases e'; exact s2 k d2 hk⟩)
theorem RepE.setS (R : RepE u B G0 G H σ ε) (i : Nat) {v : V} {s : Sl} (h : SlV u B G H σ ε v s) : RepE u B G0 G H (σ.set i (some v)) (ε.set i s) := by
  cases s with
  | no => exact h.elim
  | xn x => exact h.elim
  | fz d => exact R.setF i h
  | ow d =>
    obtain ⟨l, rfl, hg, hb, w, ap⟩ := h
    exact R.setO i hg hb w ap
theorem slv_set {i : Nat} {v w : V} {s t : Sl} (h : SlV u B G H σ ε v s) (k : SlV u B G H σ ε w t) (hd : ∀ l d, s = .ow d → v = .ref l → ∀ d', t = .ow d' → w ≠ .ref l) : SlV u B G H (σ.set i (some v)) (ε.set i s) w t := by
  cases t with
  | no => exact k.elim
  | xn x => exact k.elim
  | fz d => exact k
  | ow d =>
    obtain ⟨m, rfl, hg, hb, o, ap⟩ := k
    refine ⟨m, rfl, hg, hb, o, ?_⟩
    cases s with
    | no => exact h.elim
    | xn x => exact h.elim
    | fz d' => exact apart_set ap
    | ow d' =>
      obtain ⟨l, rfl, _⟩ := h
      exact apart_setO ap fun q => hd l d' rfl rfl d rfl (by rw [q])
def par3F (i j k : Nat) (f : Env → Out (List Sl)) : Env → SO := fun ε => (f ε).toS fun ss ε1 => match ss with
  | [s, t, r] => .nx (((ε1.set i s).set j t).set k r)
  | _ => .bad
theorem rs_par3 {i j k : Nat} {ta : TA} {f : Env → Out (List Sl)} (ha : RzMs u W ta f) (hi : i ∉ b := by decide) (hj : j ∉ b := by decide) (hk : k ∉ b := by decide) : RzS u W b (tPar3 i j k ta) (par3F i j k f) := fun B G0 G H σ ε N R q =>
  ha _ _ _ _ _ _ _ R (q.bnd.mono fun ss ε1 G1 H1 e1 R1 h1 vs sv => by
    match ss, h1, sv with
    | [s, t, r], h1, sv =>
      obtain ⟨v, vs, rfl, a1, ⟨w, ws, rfl, a2, ⟨x, xs, rfl, a3, e, _⟩, d2⟩, d1⟩ := sv
      cases e
      refine ⟨v, w, x, rfl, ?_⟩
      have R2 := R1.setS i a1
      have a2' := slv_set (i := i) a1 a2 fun l d es ev d' et ew => d1 l d es ev 0 d' (by simp [et]) (by simp [ew])
      have a3' := slv_set (i := i) a1 a3 fun l d es ev d' et ew => d1 l d es ev 1 d' (by simp [et]) (by simp [ew])
      have R3 := R2.setS j a2'
      have a3'' := slv_set (i := j) a2' a3' fun l d es ev d' et ew => d2 l d es ev 0 d' (by simp [et]) (by simp [ew])
      exact h1.next (R3.setS k a3'') (((kp_set hi).trans (kp_set hj)).trans (kp_set hk))
    | [], h1, _ => exact h1.elim
    | [_], h1, _ => exact h1.elim
    | [_, _], h1, _ => exact h1.elim
    | _ :: _ :: _ :: _ :: _, h1, _ => exact h1.elim)
end
end ML
end
section
set_option Elab.async false
set_option linter.all false
set_option maxRecDepth 100000
set_option maxHeartbeats 2000000
set_option autoImplicit false
namespace MH
open PySem PySem.Spec PyProof.Rows L2
open PySem.W (EachIs AllAlike Sortable dataLe sortVals SortsAt dataKind KeyedOut)
section
variable {prog : Program} {w : World} {A : Around} {E : Value → Shared → Prop} {s : Shared} {a kS : Addr} {vs : List Value} {keys : Array Value} {e e1 : Nat} {P : PySem.Fin → Shared → Prop}
end
end MH
namespace MH
open PySem PySem.Spec PyProof.Rows L2
open PySem.W (EachIs AllAlike Sortable dataLe sortVals SortsAt dataKind KeyedOut)
section
variable {X : Cx} {pins : List (Addr × Obj)} {σ : L2.St} {k : Nat} {f : Addr} {fd : FuncData} {ps : List Str} {sp : Sp}
end
end MH
end
section
set_option Elab.async false
set_option linter.all false
set_option maxRecDepth 100000
set_option maxHeartbeats 2000000
set_option autoImplicit false
namespace ML
open PySem PySem.Spec PyProof.Rows L2
open PySem.W (AllAlike Sortable dataLe alike)
section
variable {u : Uv} {W : WX} {B G0 G G' H H' : Hp} {σ : L2.St} {ε : Env}
def keysOf (F : List D → Rt) : List D → Option (List D)
  | [] => some []
  | d :: ds => match F [d] with
    | .ret e => (keysOf F ds).map fun es => e :: es
    | _ => none
def sortByL (ds es : List D) : List D := ((ds.zip es).mergeSort (dataLe false fun b => toPy b.2)).map (·.1)
def sortK (F : List D → Rt) : D → Option D
  | .lst ds => (keysOf F ds).bind fun es => if sortOk0 es = true then some (.lst (sortByL ds es)) else none
  | _ => none
def sortKF (fa : Env → Out D) (F : List D → Rt) : Env → Out D := fun ε => (fa ε).bnd fun d ε1 => Out.opt (sortK F d) ε1
end
end ML
end
section
set_option Elab.async false
set_option linter.all false
set_option maxRecDepth 100000
set_option maxHeartbeats 2000000
set_option autoImplicit false
namespace MH
open PySem PySem.Spec PyProof.Rows L2
section
variable {X : Cx} {K : PySem.W.Frag}
theorem pe_propK (hK : X.K = K) {C p g : Addr} {f : Str} {k : Nat} {fd : FuncData} {ps : List Str} {sp : Sp} {e : Expr} {pos : Pos} {ta : TE} {E : XK} (he : PE X e ta) (c : Cls K C) (hp : PropOf K C f p g) (F : FnOk X.prog X.w K X.mg X.base CX0 k g fd ps sp) (hr : Room (k + 1) X.A) (hb : Binds K fd ps []) (hx : Passes CX0 X.nox E)
    (hab : attributeBase e f X.env (eval e X.env) = eval e X.env) : PE X (.Attribute e f pos) (tProp C sp [] E ta) := by
  subst hK; exact pe_prop he c hp F hr hb .nil hx hab
end
end MH
namespace ML
open PySem PySem.Spec PyProof.Rows L2
section
variable {u : Uv} {W : WX} {b : List Nat} {B G0 G G' H H' : Hp} {σ : L2.St} {ε : Env}
def isi2F (f : Env → Out D) (T U : String) : Env → Out D := fun ε => (f ε).bnd fun d ε1 => match d with
  | .scr _ => .bad
  | .mo _ _ _ _ => .ok (.bl false) ε1
  | .obj _ _ _ => .ok (.bl false) ε1
  | d => .ok (.bl (isiB d T || isiB d U)) ε1
def propF (f : Env → Out D) (c : Nat) (F : List D → Rt) : Env → Out D := fun ε => (f ε).bnd fun d ε1 => match d with
  | .obj c' fs ds => if c' = c then callO (F [.obj c' fs ds]) ε1 else .bad
  | _ => .bad
theorem rz_prop {c : Nat} {te : TE} {f : Env → Out D} {F : List D → Rt} (h : RzE u noW te f) : RzE u noW (tProp (u.cl c) (SpF u 1 F) [] E0 te) (propF f c F) := fun B G0 G H σ ε Q R q =>
  h _ _ _ _ _ _ _ R (q.bnd.mono fun d ε1 G1 H1 e1 R1 h1 v rv => by
    cases d with
    | obj c' fs ds =>
      by_cases hcc : c' = c
      · subst hcc
        simp only [if_true] at h1
        have rv0 := rv
        simp only [Rep] at rv
        obtain ⟨a, dx, ws, rfl, a1, a2, a3⟩ := rv
        refine ⟨a, dx, fs.zip ws, rfl, R1.gh _ _ a1, spF_of ⟨H1, G1, [.obj c' fs ds], rfl, R1.gh, Ex.refl _, RepL.one rv0, ?_⟩⟩
        cases ef : F [.obj c' fs ds] with
        | ret d => rw [ef] at h1; exact fun v G' H' eg gb gh bh rv => Pst.ret' (a := d) h1 eg (R1.grow eg gb bh gh) v rv
        | exn x => rw [ef] at h1; exact fun c dd G' H' eg gb gh bh rx => h1 c dd G' H' eg (R1.grow eg gb bh gh) rx
        | bad => rw [ef] at h1; exact h1.elim
      · simp only [if_neg hcc] at h1; exact h1.elim
    | _ => exact h1.elim)
def min2D : List D → Option D
  | [.int i, .int j] => some (.int (if j < i then j else i))
  | _ => none
def max2D : List D → Option D
  | [.int i, .int j] => some (.int (if i < j then j else i))
  | _ => none
def absD : List D → Option D
  | [.int i] => some (.int (if i < 0 then -i else i))
  | _ => none
theorem rep1 {x : D} {vs : List V} (r : RepL u G [x] vs) : ∃ v, vs = [v] ∧ Rep u G x v := by
  simp only [RepL] at r
  obtain ⟨v, r1, rfl, h1, rfl⟩ := r
  exact ⟨v, rfl, h1⟩
def maxI : List Int → Option Int
  | [] => none
  | n :: ns => some (ns.foldl max n)
theorem maxI_spec : ∀ (ns : List Int) (n : Int), (ns.foldl max n ∈ n :: ns) ∧ ∀ y ∈ n :: ns, y ≤ ns.foldl max n
  | [], n => by simp
  | m :: ns, n => by
    obtain ⟨h1, h2⟩ := maxI_spec ns (max n m)
    refine ⟨?_, fun y hy => ?_⟩
    · rw [List.foldl_cons]
      rcases List.mem_cons.1 h1 with h | h
      · rw [h]
        rcases Int.le_total n m with q | q
        · rw [Int.max_eq_right q]; simp
        · rw [Int.max_eq_left q]; simp
      · simp [h]
    · rw [List.foldl_cons]
      rcases List.mem_cons.1 hy with rfl | h
      · exact Int.le_trans (Int.le_max_left y m) (h2 (max y m) (by simp))
      · rcases List.mem_cons.1 h with rfl | h
        · exact Int.le_trans (Int.le_max_right n y) (h2 (max n y) (by simp))
        · exact h2 y (by simp [h])
def maxD : List D → Option D := oneD fun
  | .lst ds => (intsD ds).bind fun ns => (maxI ns).map .int
  | _ => none
def rg1F (f : Env → Out D) : Env → Out (Int × Int) := fun ε => (f ε).bnd fun d ε1 => match d with
  | .int n => .ok (0, n) ε1
  | _ => .bad
def rg2F (f g : Env → Out D) : Env → Out (Int × Int) := fun ε => (f ε).bnd fun d ε1 => (g ε1).bnd fun e ε2 => match d, e with
  | .int m, .int n => .ok (m, n) ε2
  | _, _ => .bad
def okRg (p : Int × Int) : Bool := decide (-100000 ≤ p.1) && (decide (p.1 ≤ 100000) && (decide (-100000 ≤ p.2) && decide (p.2 ≤ 100000)))
def lstRgM (f : Env → Out (Int × Int)) : Env → Out Sl := fun ε => (f ε).bnd fun p ε1 => if okRg p = true then .ok (.ow (.lst (rangeD p.1 (p.2 - p.1).toNat))) ε1 else .bad
def tupRgF (f : Env → Out (Int × Int)) : Env → Out D := fun ε => (f ε).bnd fun p ε1 => if okRg p = true then .ok (.tup (rangeD p.1 (p.2 - p.1).toNat)) ε1 else .bad
end
def pAd (K : PySem.W.Frag) (c f : Str) : Addr := match PySem.W.recIn K (He.ma K (He.ga K c) f) "property" with
  | some (.ref g :: _) => g
  | _ => 0
def fnP (K : PySem.W.Frag) (p : Str × Str) : He.FnW := match K.lookup (pAd K p.1 p.2) with
  | some ⟨_, _, .func fd, _⟩ => some (fd.name, fd.qualname, fd.params, fd.body, fd.scope, fd.globals, fd.closure, fd.builtins)
  | _ => none
def okP (K : PySem.W.Frag) (x : (Str × Str) × He.DefD) : Bool := PySem.W.keepIn K (.ref (pAd K x.1.1 x.1.2)) && ((match K.lookup (pAd K x.1.1 x.1.2) with
  | some ⟨_, _, .func fd, _⟩ => PySem.W.codeIn K fd.code x.2.qual && (He.dflB K fd.defaults (x.2.dvs K) && He.kwdB K fd.kwdefaults (x.2.kws K))
  | _ => false) && (He.eqO (PySem.W.findIn K (.ref (He.ga K x.1.1)) x.1.2) (some (some (.ref (He.ma K (He.ga K x.1.1) x.1.2)))) && (He.eqO (PySem.W.specialIn K (.ref (He.ma K (He.ga K x.1.1) x.1.2)) "__get__") (some (some (.builtin "property.__get__"))) &&
  (decide (PySem.W.takesIn K (.ref (He.ma K (He.ga K x.1.1) x.1.2)) = some true) && (match PySem.W.recIn K (He.ma K (He.ga K x.1.1) x.1.2) "property" with
    | some (.ref _ :: _) => true
    | _ => false)))))
theorem prop_funD {K : PySem.W.Frag} {c f : Str} {d : He.DefD} (e : fnP K (c, f) = d.val) (h : okP K ((c, f), d) = true) :
    ∃ p g fd, FunD K d.name d.qual d.params d.body d.scope (d.dvs K) (d.kws K) g fd ∧ PropOf K (He.ga K c) f p g := by
  unfold okP at h
  simp only [Bool.and_eq_true, decide_eq_true_eq] at h
  obtain ⟨kp, c2, h1, h2, h3, h4⟩ := h
  have hP : PropOf K (He.ga K c) f (He.ma K (He.ga K c) f) (pAd K c f) := by
    refine ⟨He.eqO_ok h1, He.eqO_ok h2, h3, ?_⟩
    unfold pAd
    split at h4
    · rename_i g rest eq
      rw [eq]
      exact ⟨rest, rfl⟩
    · cases h4
  unfold fnP at e
  cases q : K.lookup (pAd K c f) with
  | none =>
    simp only [q] at c2
    cases c2
  | some o =>
    obtain ⟨oc, od, dt, osl⟩ := o
    simp only [q] at c2 e
    cases dt with
    | func fd =>
      obtain ⟨n1, n2, n3, n4, n5, n6, n7, n8, n9, n10, n11, n12, n13, n14, n15⟩ := fd
      have e2 : (some (n1, n2, n3, n4, n5, n6, n7, n15) : He.FnW) = some (d.name, d.qual, d.params, .stmts d.body, d.scope, mainGlobals, [], builtinsNs) := e
      simp only [Option.some.injEq, Prod.mk.injEq] at e2
      obtain ⟨g1, g2, g3, g4, g5, g6, g7, g8⟩ := e2
      subst g1 g2 g3 g4 g5 g6 g7 g8
      obtain ⟨k1, k3, k4⟩ : PySem.W.codeIn K n13 d.qual = true ∧ He.dflB K n8 (d.dvs K) = true ∧ He.kwdB K n9 (d.kws K) = true := by simpa using c2
      exact ⟨_, _, _, ⟨⟨oc, od, n8, n9, n10, n11, n12, n13, n14, osl, rfl, q, k1, He.dflB_ok k3, He.kwdB_ok k4⟩, kp⟩, hP⟩
    | _ => cases c2
abbrev AlY : Type := (He.AlD × Bool) × List He.FnW
def obsY (fa : List He.Fa) (fn : List He.DefD) (pr : List ((Str × Str) × He.DefD)) (ck : List (PySem.W.Frag → Bool)) (K : PySem.W.Frag) : AlY := ((He.obsD fa fn K, (ck.all fun c => c K) && pr.all fun x => okP K x), pr.map fun x => fnP K x.1)
structure SaysY (fa : List He.Fa) (fn : List He.DefD) (pr : List ((Str × Str) × He.DefD)) (ck : List (PySem.W.Frag → Bool)) (K : PySem.W.Frag) : Prop where
  d : He.SaysD fa fn K
  k : (ck.all fun c => c K) = true
  p : (pr.all fun x => okP K x) = true
  v : (pr.map fun x => fnP K x.1) = pr.map fun x => x.2.val
theorem saysY_of {fa : List He.Fa} {fn : List He.DefD} {pr : List ((Str × Str) × He.DefD)} {ck : List (PySem.W.Frag → Bool)} {K : PySem.W.Frag} (e : obsY fa fn pr ck K = ((He.valD fn, true), pr.map fun x => x.2.val)) : SaysY fa fn pr ck K := by
  unfold obsY at e
  simp only [Prod.mk.injEq, Bool.and_eq_true] at e
  exact ⟨e.1.1, e.1.2.1, e.1.2.2, e.2⟩
theorem SaysY.prop {fa : List He.Fa} {fn : List He.DefD} {pr : List ((Str × Str) × He.DefD)} {ck : List (PySem.W.Frag → Bool)} {K : PySem.W.Frag} (S : SaysY fa fn pr ck K) (i : Nat) {c f : Str} {d : He.DefD} (h : pr[i]? = some ((c, f), d)) :
    ∃ p g fd, FunD K d.name d.qual d.params d.body d.scope (d.dvs K) (d.kws K) g fd ∧ PropOf K (He.ga K c) f p g := by
  refine prop_funD (c := c) (f := f) (d := d) ?_ ?_
  · have := congrArg (fun l : List He.FnW => l[i]?) S.v
    simp only [List.getElem?_map, h, Option.map_some, Option.some.injEq] at this
    exact this
  · exact List.all_eq_true.1 S.p _ (List.mem_of_getElem? h)
end ML
end
section
set_option Elab.async false
set_option linter.all false
set_option maxRecDepth 100000
set_option maxHeartbeats 2000000
set_option autoImplicit false
namespace ML
open PySem PySem.Spec PyProof.Rows L2
section
variable {u : Uv} {W : WX} {b : List Nat} {B G0 G G' H H' : Hp} {σ : L2.St} {ε : Env}
def lc2L (vs vs1 : List Nat) (gf : D → Env → Option Env) (tf : Env → Out Bool) (fi : Env → Out (List D)) (gf1 : D → Env → Option Env) (tf1 : Env → Out Bool) (ef : Env → Out D) : List D → List D → Env → Out (List D)
  | [], acc, ε => .ok acc ε
  | d :: ds, acc, ε => match gf d ε with
    | none => .bad
    | some ε1 => match tf ε1 with
      | .ok true ε2 => (match fi ε2 with
        | .ok ds1 ε3 => (match lcL vs1 gf1 tf1 ef ds1 acc (wipeE ε3 vs1) with
          | .ok acc' ε4 => lc2L vs vs1 gf tf fi gf1 tf1 ef ds acc' (wipeE ε4 vs)
          | _ => .bad)
        | _ => .bad)
      | .ok false ε2 => lc2L vs vs1 gf tf fi gf1 tf1 ef ds acc (wipeE ε2 vs)
      | _ => .bad
def lc2M (vs vs1 : List Nat) (fi : Env → Out (List D)) (gf : D → Env → Option Env) (tf : Env → Out Bool) (fi1 : Env → Out (List D)) (gf1 : D → Env → Option Env) (tf1 : Env → Out Bool) (ef : Env → Out D) : Env → Out Sl := fun ε => (fi ε).bnd fun ds ε1 => (lc2L vs vs1 gf tf fi1 gf1 tf1 ef ds [] (wipeE ε1 vs)).bnd mkL
end
end ML
end
section
set_option Elab.async false
set_option linter.all false
set_option maxRecDepth 100000
set_option maxHeartbeats 2000000
set_option autoImplicit false
namespace MH
open PySem PySem.Spec PyProof.Rows L2
end MH
namespace ML
open PySem PySem.Spec PyProof.Rows L2
section
variable {u : Uv} {W : WX} {b : List Nat} {B G0 G H : Hp} {σ : L2.St} {ε : Env}
def done1TM (fk fv : Env → Out D) : Env → Out Sl := fun ε => (fk ε).bnd fun k ε1 => (fv ε1).bnd fun d ε2 => Out.opt ((toKeys k).map fun k => .ow (.dt [k] [d])) ε2
def lstD : D → Option D
  | .dk ks _ => some (.lst (ks.map keyD))
  | .dt ks _ => some (.lst (ks.map tupD))
  | _ => none
def listPF (i : Nat) : Env → Out D := fun ε => match (lookAt i ε).bind lstD with
  | some z => .ok z ε
  | none => .bad
end
end ML
end
section
set_option Elab.async false
set_option linter.all false
set_option maxRecDepth 100000
set_option maxHeartbeats 2000000
set_option autoImplicit false
namespace MH
open PySem PySem.Spec PyProof.Rows L2
open PySem.W (EachIs AllAlike Sortable dataLe)
section
variable {P : Program} {w : World} {A : Around} {E : Value → Shared → Prop} {s : Shared}
end
end MH
namespace ML
open PySem PySem.Spec PyProof.Rows L2
section
variable {u : Uv} {W : WX} {b : List Nat} {B G0 G H : Hp} {σ : L2.St} {ε : Env}
end
end ML
end
section
set_option Elab.async false
set_option linter.all false
set_option maxRecDepth 100000
set_option maxHeartbeats 2000000
set_option autoImplicit false
namespace MH
open PySem PySem.Spec PyProof.Rows L2
end MH
namespace ML
open PySem PySem.Spec PyProof.Rows L2
section
variable {u : Uv} {W : WX} {b : List Nat} {B G0 G H : Hp} {σ : L2.St} {ε : Env}
def starRgF (f : Env → Out (Int × Int)) (fr : Env → Out (List D)) : Env → Out (List D) := fun ε => (f ε).bnd fun p ε1 => if okRg p = true then (fr ε1).bnd fun xs ε2 => .ok (rangeD p.1 (p.2 - p.1).toNat ++ xs) ε2 else .bad
theorem RepL.eraseIdx {ds : List D} {vs : List V} (r : RepL u G ds vs) (j : Nat) : RepL u G (ds.eraseIdx j) (vs.eraseIdx j) := by
  rw [List.eraseIdx_eq_take_drop_succ, List.eraseIdx_eq_take_drop_succ]
  exact (r.take j).append (r.drop (j + 1))
def remD (ds : List D) (d : D) : Option (List D) := if okPy (.lst ds) = true ∧ okPy d = true then (SeqAt.dataPlace (toPyL ds) (toPy d)).map fun j => ds.eraseIdx j else none
def remF (i : Nat) (f : Env → Out D) : Env → SO := fun ε => match ownL i ε with
  | none => .bad
  | some _ => (f ε).toS fun d ε1 => match (ownL i ε1).bind fun ds => remD ds d with
    | some ds => .nx (ε1.set i (.ow (.lst ds)))
    | none => .bad
def ownL1 : Option D → Env → Out Sl
  | some (.lst xs), ε => .ok (.ow (.lst xs)) ε
  | _, _ => .bad
def listM (fa : Env → Out (List D)) : Env → Out Sl := fun ε => (fa ε).bnd fun ds ε1 => ownL1 (listD ds) ε1
theorem rzm_list {ta : TA} {fa : Env → Out (List D)} (ha : RzA u W ta fa) : RzM u W (tCB (MH.rList u.K) ta) (listM fa) := fun B G0 G H σ ε Q R q =>
  ha _ _ _ _ _ _ _ R (q.bnd.mono fun ds ε1 G1 H1 e1 R1 h1 vs rvs => by
    show MH.rList u.K vs H1 Q
    cases ds with
    | nil => exact h1.elim
    | cons d r =>
      cases r with
      | cons _ _ => exact h1.elim
      | nil =>
        simp only [RepL] at rvs
        obtain ⟨v, w, rfl, rv, rfl⟩ := rvs
        cases d with
        | lst xs =>
          obtain ⟨a, us, rfl, a1, a2⟩ := rep_lst.mp rv
          exact ⟨a, us, rfl, .inl (SqL.of (R1.gh _ _ a1)), fun l hl => h1.ret' (Ex.refl _) (R1.lay hl _) _ ⟨l, rfl, (R1.free hl).1, (R1.free hl).2.1, ⟨_, upd_same, a2⟩, apart_new R1 hl⟩⟩
        | tup xs =>
          obtain ⟨a, us, rfl, a1, a2⟩ := rep_tup.mp rv
          exact ⟨a, us, rfl, .inr (ex_t R1.gh a1), fun l hl => h1.ret' (Ex.refl _) (R1.lay hl _) _ ⟨l, rfl, (R1.free hl).1, (R1.free hl).2.1, ⟨_, upd_same, a2⟩, apart_new R1 hl⟩⟩
        | _ => exact h1.elim)
end
end ML
end
section
set_option Elab.async false
set_option linter.all false
set_option maxRecDepth 100000
set_option maxHeartbeats 2000000
set_option autoImplicit false
namespace ML
open PySem PySem.Spec PyProof.Rows L2
section
variable {u : Uv} {W : WX} {b : List Nat} {B G0 G G' H H' : Hp} {σ : L2.St} {ε : Env}

def SO.back (i : Nat) (d : D) : SO → SO
  | .nx ε => .nx (ε.set i (.ow d))
  | .rt r ε => .rt r (ε.set i (.ow d))
  | .ex x ε => .ex x ε
  | _ => .bad
end
end ML
end
section
set_option Elab.async false
set_option linter.all false
set_option maxRecDepth 100000
set_option maxHeartbeats 2000000
set_option autoImplicit false
namespace MH
open PySem PySem.Spec PyProof.Rows L2
end MH
namespace ML
open PySem PySem.Spec PyProof.Rows L2
section
variable {u : Uv} {W : WX} {b : List Nat} {B G0 G G' H H' : Hp} {σ σ' : L2.St} {ε : Env}
def Nest (u : Uv) (G H : Hp) : List Addr → List (List D) → Prop
  | [], [] => True
  | m :: ms, r :: rs => (∃ vs, H m = some (.lst vs) ∧ RepL u G r vs) ∧ Nest u G H ms rs
  | _, _ => False
theorem Nest.mono (e : Ex G G') : ∀ {ms : List Addr} {rs : List (List D)}, (∀ m, m ∈ ms → ∀ o, H m = some o → H' m = some o) → Nest u G H ms rs → Nest u G' H' ms rs
  | [], [], _, h => h
  | m :: ms, r :: rs, k, ⟨⟨vs, h1, h2⟩, h3⟩ => ⟨⟨vs, k m (by simp) _ h1, RepL.mono e _ h2⟩, Nest.mono e (fun m' hm => k m' (by simp [hm])) h3⟩
theorem Nest.length : ∀ {ms : List Addr} {rs : List (List D)}, Nest u G H ms rs → ms.length = rs.length
  | [], [], _ => rfl
  | _ :: _, _ :: _, ⟨_, h⟩ => by simp [Nest.length h]
theorem Nest.get : ∀ {ms : List Addr} {rs : List (List D)} {k : Nat} {r : List D}, Nest u G H ms rs → rs[k]? = some r → ∃ m vs, ms[k]? = some m ∧ H m = some (.lst vs) ∧ RepL u G r vs
  | [], [], _, _, _, e => by simp at e
  | m :: ms, r :: rs, 0, _, ⟨⟨vs, h1, h2⟩, _⟩, e => by simp at e; subst e; exact ⟨m, vs, rfl, h1, h2⟩
  | m :: ms, r :: rs, k + 1, _, ⟨_, h⟩, e => by simpa using Nest.get h (by simpa using e)
theorem Nest.put {m : Addr} {vs : List V} {r : List D} (h2 : RepL u G r vs) : ∀ {ms : List Addr} {rs : List (List D)} {k : Nat}, ms.Nodup → Nest u G H ms rs → ms[k]? = some m → Nest u G (upd H m (.lst vs)) ms (rs.set k r)
  | [], [], _, _, _, e => by simp at e
  | n :: ms, _ :: rs, 0, nd, ⟨_, h⟩, e => by
    simp at e; subst e
    refine ⟨⟨vs, upd_same, h2⟩, Nest.mono (Ex.refl _) (fun m' hm o q => ?_) h⟩
    have hne : m' ≠ n := fun z => (List.nodup_cons.mp nd).1 (by rw [← z]; exact hm)
    rw [upd_ne hne]; exact q
  | n :: ms, _ :: rs, k + 1, nd, ⟨⟨ws, a1, a2⟩, h⟩, e => by
    have e' : ms[k]? = some m := by simpa using e
    have hm : m ∈ ms := List.mem_of_getElem? e'
    have hne : n ≠ m := fun z => (List.nodup_cons.mp nd).1 (by rw [z]; exact hm)
    exact ⟨⟨ws, by rw [upd_ne hne]; exact a1, a2⟩, Nest.put h2 (List.nodup_cons.mp nd).2 h e'⟩
structure NestO (u : Uv) (B G H : Hp) (σ : L2.St) (ε : Env) (D0 : Addr) (ms : List Addr) (rs : List (List D)) : Prop where
  nd : (D0 :: ms).Nodup
  gn : ∀ m, m ∈ D0 :: ms → G m = none
  bn : ∀ m, m ∈ D0 :: ms → B m = none
  ap : ∀ m, m ∈ D0 :: ms → Apart σ ε m
  hd : H D0 = some (.lst (ms.map V.ref))
  ne : Nest u G H ms rs
theorem NestO.has {D0 : Addr} {ms : List Addr} {rs : List (List D)} (n : NestO u B G H σ ε D0 ms rs) {m : Addr} (hm : m ∈ D0 :: ms) : ∃ vs, H m = some (.lst vs) := by
  rcases List.mem_cons.mp hm with e | e
  · subst e; exact ⟨_, n.hd⟩
  · obtain ⟨k, hk, e2⟩ := List.mem_iff_getElem.mp e
    have hk2 : k < rs.length := by rw [← n.ne.length]; exact hk
    obtain ⟨m', vs, q1, q2, _⟩ := n.ne.get (show rs[k]? = some rs[k] by simp [hk2])
    have : m' = m := by
      rw [show ms[k]? = some ms[k] by simp [hk]] at q1
      cases q1; exact e2
    subst this
    exact ⟨vs, q2⟩
theorem NestO.ext {D0 : Addr} {ms : List Addr} {rs : List (List D)} (n : NestO u B G H σ ε D0 ms rs) (e : Ext G H G' H') : NestO u B G' H' σ ε D0 ms rs :=
  ⟨n.nd, fun m hm => by
    obtain ⟨vs, h⟩ := n.has hm
    rw [e.nw.at_ h (fun _ z => by cases z)]; exact n.gn m hm, n.bn, n.ap, e.h _ _ n.hd, n.ne.mono e.g fun m _ o q => e.h _ _ q⟩
def asides (H B : Hp) (L : List Addr) : Hp := fun a => if a ∈ L then H a else B a
theorem NestO.back {D0 : Addr} {ms : List Addr} {rs : List (List D)} {H0 G1 : Hp} {ε' : Env} (n : NestO u B G1 H0 σ ε' D0 ms rs) (e : Ex G1 G) (g0 : Ex G0 G1) (R : RepE u (asides H0 B (D0 :: ms)) G0 G H σ ε) : RepE u B G0 G H σ ε ∧ NestO u B G H σ ε D0 ms rs := by
  have key : ∀ m, m ∈ D0 :: ms → ∃ vs, asides H0 B (D0 :: ms) m = some (.lst vs) ∧ H0 m = some (.lst vs) := fun m hm => by
    obtain ⟨vs, h⟩ := n.has hm
    exact ⟨vs, by simp only [asides, if_pos hm]; exact h, h⟩
  have hH : ∀ m, m ∈ D0 :: ms → ∀ o, H0 m = some o → H m = some o := fun m hm o q => R.bh m o (by simp only [asides, if_pos hm]; exact q)
  refine ⟨R.less fun a o q => ?_, n.nd, fun m hm => ?_, n.bn, fun m hm i d hi q => ?_, hH D0 (by simp) _ n.hd, n.ne.mono e fun m hm o q => hH m (by simp [hm]) o q⟩
  · have : a ∉ D0 :: ms := fun h => by rw [n.bn a h] at q; cases q
    simp only [asides, if_neg this]; exact q
  · obtain ⟨vs, h1, _⟩ := key m hm
    rw [R.gb.at_ h1 (fun _ z => by cases z)]
    exact g0.free (n.gn m hm)
  · obtain ⟨v, h1, h2⟩ := R.sl i _ hi
    obtain ⟨l, rfl, _, c, _⟩ := h2
    rw [h1] at q
    cases q
    obtain ⟨vs, z, _⟩ := key m hm
    rw [z] at c; cases c
end
end ML
end
section
set_option Elab.async false
set_option linter.all false
set_option maxRecDepth 100000
set_option maxHeartbeats 2000000
set_option autoImplicit false
namespace ML
open PySem PySem.Spec PyProof.Rows L2
section
variable {u : Uv} {W : WX} {b : List Nat} {B G0 G G' H H' : Hp} {σ σ' : L2.St} {ε : Env}
theorem ckAt {ck : List (PySem.W.Frag → Bool)} {K : PySem.W.Frag} (h : (ck.all fun c => c K) = true) (i : Nat) {f : PySem.W.Frag → Bool} (e : ck[i]? = some f) : f K = true := List.all_eq_true.mp h f (List.mem_of_getElem? e)
end
end ML
end
section
set_option Elab.async false
set_option linter.all false
set_option maxRecDepth 100000
set_option maxHeartbeats 2000000
set_option autoImplicit false
namespace MH
open PySem PySem.Spec PyProof.Rows L2
section
variable {X : Cx} {e : Expr} {es : List Expr} {ta : TA} {p p1 p2 pos : Pos}
theorem pe_baseInit {x : Str} {Wc : Addr} {pl : Sem Bool} (hg : Gl X x) (hm : X.mg x = some (.ref Wc)) (sg : PySem.W.specialIn X.K (.ref Wc) "__getattribute__" = some (some (.builtin "type.__getattribute__")))
    (ty : PySem.W.typeIn X.K (.ref Wc) = some (.type "type")) (rd : PySem.W.readsIn X.K Wc (.type "type") = true) (fc : PySem.W.findCls X.K (.ref Wc) (.type "type") "__init__" = some (.val (.builtin "ValueError.__init__"))) (ha : PA X (e :: es) ta)
    (hc : eval (.Call (.Attribute (.Name x p1) "__init__" p2) (e :: es) [] pos) X.env = (do
      let ov ← eval (.Name x p1) X.env
      standAt p2.atName
      let (f, first) ← holding [ov] (getMethod ov "__init__" pl)
      callWith pos f first (backTo pos (starEach (e :: es) X.env)) (backToKw pos (keywordEach [] X.env))) := by rfl)
    (he : starEach (e :: es) X.env = (false, eval e X.env) :: starEach es X.env := by rfl) (hpl : (backTo pos (starEach es X.env)).any (·.1) = false := by rfl) (hdb : (x == ("__debug__" : Str)) = false := by decide) :
    PE X (.Call (.Attribute (.Name x p1) "__init__" p2) (e :: es) [] pos) (tVeI X.K ta) := ⟨fun pins s σ H Q I h => by
  refine PySem.W.methodCall_KW (ld_glob I hg hm ?_ hdb) hc
  obtain ⟨m, fr⟩ := I.fr
  refine PySem.W.method_of_cls fr I.ok.mod.kin sg (PySem.W.cls_val fr I.ok.mod.kin ty rd fc (by decide +kernel) ?_)
  refine PyProof.Rows.callWith_method1 (thn (ha.run pos pins _ σ H _ (I.tok _) h) fun us s1 ⟨vs, H1, I1, rr, a, C, ws, ev, hl, T, ea, q⟩ => ?_) he hpl
  subst ev
  cases rr with
  | @cons _ u0 _ ur ra rr' =>
    obtain rfl : u0 = Value.ref a := ra
    have hn : ur.length ≤ sizeLine := by
      have := Paired.length rr'
      rw [sizeLine_eq]; omega
    exact oinit_ok T I1 ea hn fun s' J => ⟨.non, H1, J, rfl, q⟩⟩
theorem letGoN {pins : List (Addr × Obj)} {σ : L2.St} {H1 H2 : Hp} {hp hp2 h2 : Heap} {g1 g2 : Array GenState} {d1 d2 : Drawn} {t1 t2 : Nat} {os1 os2 : OsState} {a C : Addr} (I1 : Inv X pins σ H1 ⟨hp, g1, d1, t1, os1⟩) (ha : hp.objs.size ≤ a)
    (k : ∀ b o, hp.get? b = some o → hp2.get? b = some o) (un : Un (frs X.stack) [] (upd H1 a (exo a C none)) H2 hp2 h2) (hok : HOk X.prog X.w H2 h2) (eo : os2 = os1) (hb : AllBare g2) (ea : H2 a = some (exo a C none)) :
    ∃ (t0 : Addr) (G : Heap), Inv X pins σ (del H2 a) ⟨G, g2, d2, t2, os2⟩ ∧ (∀ b o, G.get? b = some o → h2.get? b = some o) ∧ G.get? a = none ∧ h2.get? a = some ({ cls := .ref C, dict := none, data := .fields #[.ref t0, .none, .none, .none, .bool false, .none] } : Obj) := by
  obtain ⟨t0, at0⟩ := exo_at hok ea
  have f1 : H1 a = none := I1.hok.fresh ha
  obtain ⟨G, on_, off⟩ := restrict h2 fun b => decide (b ≠ a)
  have same : ∀ b, b ≠ a → G.get? b = h2.get? b := fun b n => on_ b (decide_eq_true n)
  have gone : G.get? a = none := off a (by simp)
  have old : ∀ {b : Addr} {o : Obj}, hp.get? b = some o → b ≠ a := fun {b o} z q => by
    subst q
    exact absurd (Heap.lt_size z) (Nat.not_lt.mpr ha)
  have u0 : ∀ {b : Addr}, b ≠ a → upd H1 a (exo a C none) b = H1 b := fun n => upd_ne n
  have U : Un (frs X.stack) [] H1 (del H2 a) hp G := by
    constructor
    · intro b o z n hf hx
      rw [same b (old z)]; exact un.keep b o (k b o z) ((u0 (old z)).trans n) hf hx
    · intro b o z n hf hx
      rw [same b (old z)]; exact un.slot b o (k b o z) ((u0 (old z)).trans n) hf hx
    · intro b o z n hx
      rw [del_ne (old z)]; exact un.free b o (k b o z) ((u0 (old z)).trans n) hx
    · intro b o z hx
      rw [same b (old z)]; exact un.there b o (k b o z) hx
    · intro b xs z
      have n := ne_of_none z f1
      rw [del_ne n]; exact un.tups b xs ((u0 n).trans z)
    · intro b o v z
      have n := ne_of_none z f1
      rw [del_ne n]; exact un.frzs b o v ((u0 n).trans z)
    · intro b ps z
      have n := ne_of_none z f1
      rw [del_ne n]; exact un.tbls b ps ((u0 n).trans z)
  have ok2 : HOk X.prog X.w (del H2 a) G := fun b o z => by
    have n : b ≠ a := fun q => by rw [q, del_same] at z; cases z
    rw [del_ne n] at z
    refine (hok b o z).stay (fun c v hc y => ?_) (fun c hc => ?_) fun c xs hc => ?_
    · have nc : c ≠ a := by
        rcases hc with hc | hc
        · rw [hc]; exact n
        · exact at_ne ea hc exo_own
      rw [same c nc]; exact y
    · rw [del_ne (at_ne ea hc exo_own)]; exact hc
    · rw [del_ne (at_ne ea hc exo_tup)]; exact hc
  refine ⟨t0, G, I1.call' (ch := []) eo U ok2 hb (fun b z => absurd z (by simp)), fun b o z => ?_, gone, at0⟩
  by_cases n : b = a
  · rw [n, gone] at z; cases z
  · rw [← same b n]; exact z
def spE0 (K : PySem.W.Frag) : Sp := fun vs H Q _ => ∃ a C, vs = [V.ref a] ∧ OexC K C ∧ H a = some (exo a C none) ∧ Q .non H
theorem del_upd {H : Hp} {a : Addr} {o : HO} (h : H a = none) : del (upd H a o) a = H := by
  funext b
  by_cases n : b = a
  · rw [n, del_same, h]
  · rw [del_ne n, upd_ne n]
theorem pmk_e0 {x : Str} {C fI : Addr} {k : Nat} {fd : FuncData} (T : OexC X.K C) (iC : PySem.W.findIn X.K (.ref C) "__init__" = some (some (.ref fI))) (tI : PySem.W.typeIn X.K (.ref fI) = some (.type "function"))
    (F1 : FnOk X.prog X.w X.K X.mg X.base CX0 k fI fd ["self"] (spE0 X.K)) (hr : Room (k + 1) X.A) (hb : Binds X.K fd ["self"] []) (hg : Gl X x) (hm : X.mg x = some (.ref C)) (hdb : (x == ("__debug__" : Str)) = false := by decide) :
    PMk X (.Call (.Name x p) [] [] pos) (fun _ H Q => Q (.ref C) none H) := by
  intro pins s σ H Q I h
  obtain ⟨nm, q, N, bs, bm, sn, sub, ab, col, dd, k0, k1, k2, k3, k5, hC, hbm⟩ := T.cls
  refine wpAny_Call_Name_kw (ld_glob I hg hm ?_ hdb)
  refine PySem.W.callWith_K0 I.kIn T.kC ?_
  obtain ⟨hp, g, dr, tk, os⟩ := s
  have ge : hp.objs.size ≤ hp.objs.size + 1 := Nat.le_succ _
  have f0 : H (hp.objs.size + 1) = none := I.hok.fresh ge
  have kk : ∀ b o, hp.get? b = some o → ((hp.push (PySem.W.kdv_tup [])).push (PySem.HandSPX.excO C hp.objs.size)).get? b = some o := fun b o z => Heap.get?_push_of_some _ (Heap.get?_push_of_some _ z)
  have new : ((hp.push (PySem.W.kdv_tup [])).push (PySem.HandSPX.excO C hp.objs.size)).get? (hp.objs.size + 1) = some (PySem.HandSPX.excO C hp.objs.size) := by heap_get
  have I2 : Inv X pins σ (upd H (hp.objs.size + 1) (exo (hp.objs.size + 1) C none)) ⟨(hp.push (PySem.W.kdv_tup [])).push (PySem.HandSPX.excO C hp.objs.size), g, dr, tk, os⟩ := I.laid (t' := tk) kk ge (exo_ok new)
  have rel : Vals [V.ref (hp.objs.size + 1)] [Value.ref (hp.objs.size + 1)] := .cons rfl .nil
  have sp : spE0 X.K [V.ref (hp.objs.size + 1)] (upd H (hp.objs.size + 1) (exo (hp.objs.size + 1) C none)) (fun v H2 => v = .non ∧ H2 = upd H (hp.objs.size + 1) (exo (hp.objs.size + 1) C none)) (fun _ _ _ => False) := ⟨_, C, rfl, T, upd_same, rfl, rfl⟩
  refine wpAny_call (PySem.HandSPX.call_own F.excBase_ValueError (fun Y => PySem.HandSPX.refsVE_contains Y bm hbm) (I.kIn _ _ hC) (PySem.W.looks_findIn I.kIn iC) (fun self => PySem.W.bind_fn I.kIn self tI) (by simp)
    (codeAny_mono (F1.run _ X.stack _ _ ⟨[Value.ref (hp.objs.size + 1)], []⟩ [Value.ref (hp.objs.size + 1)] _ _ (fun _ _ _ => False) (hr.make C [] []) (I2.env0.make C [] []) (hb _ [Value.ref (hp.objs.size + 1)] I2.kIn rfl) rel sp) fun r s' hq => ?_))
  cases r with
  | error er => exact (show False from hq).elim
  | ok fl =>
    cases fl with
    | ret u =>
      obtain ⟨v, H2, os2, bare2, un2, hok2, rv, ev, eH⟩ := hq
      subst ev
      obtain ⟨h2, g2, d2, t2, os'⟩ := s'
      obtain ⟨t0, G, J, kG, gn, at0⟩ := letGoN (d2 := d2) (t2 := t2) I ge kk un2 hok2 os2 bare2 (by rw [eH]; exact upd_same)
      refine ⟨rv, _, _, _, ⟨G, g2, d2, t2, os'⟩, _, .ref C, none, rfl, J, kG, gn, at0, ⟨rfl, rfl⟩, rfl, rfl, del_same, rfl, bare2, raises_own T.exC T.tyC, ?_⟩
      rw [eH, del_upd f0]
      exact h
    | next => exact False.elim hq
    | brk => exact False.elim hq
    | cont => exact False.elim hq
end
end MH
end
section
set_option Elab.async false
set_option linter.all false
set_option maxRecDepth 100000
set_option maxHeartbeats 2000000
set_option autoImplicit false
namespace MH
open PySem PySem.Spec PyProof.Rows L2
section
variable {X : Cx} {p pos : Pos}
end
section
variable {P : Program} {w : World} {K : PySem.W.Frag} {mg : Str → Option Value} {base : Heap} {qual : Str} {params : Arguments} {body : List Stmt} {scope : Scope} {f : Addr} {fd : FuncData} {k : Nat}
theorem okE0 (F0 : FunD K "__init__" qual params body scope [] [] f fd) (S : FnScope ["self"] ["self"] scope) (m : Str)
    (hb : ∀ (cdv : Value) (A : Around) (outer : List PySem.Env) (s : Shared) (H : Hp) (E : XK), PSs (cxOf CX0 P w K mg base ["self"] qual scope f cdv A outer s H E).nox body (tDrop (tVeI K (tCons (tVar 0) (tCons (tC (.str m)) tNil))))) :
    FnOk P w K mg base CX0 (k + 1) f fd ["self"] (spE0 K) := by
  refine F0.ok S (fun vs H Q E ⟨a, C, ev, _⟩ => by rw [ev]; rfl) fun cdv A outer s H vs Q E hr hsp => ⟨_, (hb cdv A outer s H E).nox, ?_⟩
  obtain ⟨a, C, rfl, T, ea, q⟩ := hsp
  exact ⟨.ref a, rfl, a, C, [.str m], rfl, by simp, T, ea, q⟩
end
end MH
namespace ML
open PySem PySem.Spec PyProof.Rows L2
section
variable {u : Uv} {W : WX} {b : List Nat} {B G0 G G' H H' : Hp} {σ σ' : L2.St} {ε : Env}
def raise0F (c : Nat) : Env → SO := fun ε => .ex ⟨c, [], []⟩ ε
theorem rs_raise0 {c : Nat} {C : Addr} (hC : u.xc c = C) : RzS u W b (fun _ σ H => W (.ref C) none σ H) (raise0F c) := fun B G0 G H σ ε N R q => by
  subst hC
  exact q _ _ σ G H (Ex.refl _) R .refl ⟨rfl, .inl ⟨rfl, rfl⟩⟩
def raise1F (c : Nat) (g : Str) (fa : Env → Out (List D)) : Env → SO := fun ε => (fa ε).toS fun ds ε1 => match ds with
  | [d] => .ex ⟨c, [g], [d]⟩ ε1
  | _ => .bad
theorem rz_callS {n : Nat} {ta : TA} {fa : Env → Out (List D)} {F : List D → Rt} (ha : RzA u W ta fa) : RzE u W (tCallS (SpF u n F) (WE W) ta) (callF n fa F) := fun B G0 G H σ ε Q R q =>
  ha _ _ _ _ _ _ _ R (q.bnd.mono fun ds ε1 G1 H1 e1 R1 h1 vs rvs => by
    by_cases hn : ds.length = n
    · simp only [if_pos hn] at h1
      refine spF_of ⟨H1, G1, ds, hn, R1.gh, Ex.refl _, rvs, ?_⟩
      cases ef : F ds with
      | ret d => rw [ef] at h1; exact fun v G' H' eg gb gh bh rv => Pst.ret' (a := d) h1 eg (R1.grow eg gb bh gh) v rv
      | exn x => rw [ef] at h1; exact fun c dd G' H' eg gb gh bh rx => h1 c dd G' H' eg (R1.grow eg gb bh gh) rx
      | bad => rw [ef] at h1; exact h1.elim
    · simp only [if_neg hn] at h1; exact h1.elim)
def NoEx (F : List D → Rt) : Prop := ∀ ds x, F ds ≠ .exn x
theorem runF_nx {n : Nat} {F : Env → SO} : NoEx (runF n F) := fun ds x h => by
  unfold runF at h
  cases e : F (envOf n ds) <;> rw [e] at h <;> cases h
theorem rz_callN {n : Nat} {ta : TA} {fa : Env → Out (List D)} {F : List D → Rt} (nx : NoEx F) (ha : RzA u W ta fa) : RzE u W (tCall (SpF u n F) [] E0 ta) (callF n fa F) := fun B G0 G H σ ε Q R q =>
  ha _ _ _ _ _ _ _ R (q.bnd.mono fun ds ε1 G1 H1 e1 R1 h1 vs rvs => by
    by_cases hn : ds.length = n
    · simp only [if_pos hn] at h1
      refine spF_of ⟨H1, G1, ds, hn, R1.gh, Ex.refl _, by rw [List.append_nil]; exact rvs, ?_⟩
      cases ef : F ds with
      | ret d => rw [ef] at h1; exact fun v G' H' eg gb gh bh rv => Pst.ret' (a := d) h1 eg (R1.grow eg gb bh gh) v rv
      | exn x => exact absurd ef (nx ds x)
      | bad => rw [ef] at h1; exact h1.elim
    · simp only [if_neg hn] at h1; exact h1.elim)
variable {P : Program} {w : World} {mg : Str → Option Value} {base : Heap} {x qual : Str} {params : Arguments} {body : List Stmt} {scope : Scope} {f : Addr} {fd : FuncData}
theorem okX {K : PySem.W.Frag} {N ps : List Str} {k n : Nat} {F : Env → SO} (hK : u.K = K ∧ u.tb = []) (F0 : FunD K x qual params body scope [] [] f fd) (S : FnScope N ps scope) (hn : N.length = n)
    (hb : ∀ (cdv : Value) (A : Around) (outer : List PySem.Env) (s : Shared) (H : Hp) (E : XK), Room k (A.deeper (envOfC qual scope s.heap.objs.size f cdv)) →
      Takes (cxOf (L2.CX P w) P w K mg base N qual scope f cdv A outer s H E) (fun c dd _ H' => E c dd H') →
      PassesOwn (model P w) (cxOf (L2.CX P w) P w K mg base N qual scope f cdv A outer s H E).A (cxOf (L2.CX P w) P w K mg base N qual scope f cdv A outer s H E).env (cxOf (L2.CX P w) P w K mg base N qual scope f cdv A outer s H E).xe →
      ∃ t, PSs (cxOf (L2.CX P w) P w K mg base N qual scope f cdv A outer s H E) body t ∧ ∀ mo, RzS (u.mt mo []) (fun c dd _ H' => E c dd H') [] t F) :
    FnOk P w K mg base (L2.CX P w) (k + 1) f fd ps (SpF u ps.length (runX n F)) := by
  refine F0.ok S (fun vs H Q E ⟨mo, B, G, ds, hl, e, b, r, _⟩ => by rw [← r.length]; exact hl) fun cdv A outer s H vs Q E hr hsp => ?_
  obtain ⟨t, ht, hz⟩ := hb cdv A outer s H E hr (takes_of rfl rfl rfl rfl) (passes_of rfl)
  refine ⟨t, ht, ?_⟩
  obtain ⟨mo, B, G, ds, hl, e, b, r, q⟩ := hsp
  subst hn
  refine hz mo B G G H _ _ _ (repE_start rfl e b r) ?_
  unfold runX at q
  cases ef : F (envOf N.length ds) with
  | nx ε' => rw [ef] at q; exact fun σ' G' H' eg R _ => q .non G' H' eg R.gb R.gh R.bh (by simp only [Rep])
  | rt d ε' => rw [ef] at q; exact fun σ' v G' H' eg R _ rv => q v G' H' eg R.gb R.gh R.bh rv
  | ex x ε' => rw [ef] at q; exact fun c dd σ' G' H' eg R _ rx => q c dd G' H' eg R.gb R.gh R.bh rx
  | bk ε' => rw [ef] at q; exact q.elim
  | ct ε' => rw [ef] at q; exact q.elim
  | bad => rw [ef] at q; exact q.elim
end
end ML
end
section
set_option Elab.async false
set_option linter.all false
set_option maxRecDepth 100000
set_option maxHeartbeats 2000000
set_option autoImplicit false
namespace MH
open PySem PySem.Spec PyProof.Rows L2
structure Cla where
  c : Value
  i : Option Nat
  ts : Addr → Value → Option Addr → TS
def offN (i : Option Nat) (σ : L2.St) : L2.St := match i with
  | some j => σ.set j none
  | none => σ
def onN (i : Option Nat) (a : Addr) (σ : L2.St) : L2.St := match i with
  | some j => σ.set j (some (.ref a))
  | none => σ
def endN (i : Option Nat) (D : Ends) : Ends := { nx := fun σ H => D.nx (offN i σ) H, rt := D.rt, bk := fun σ H => D.bk (offN i σ) H, ct := fun σ H => D.ct (offN i σ) H }
def wCla (K : PySem.W.Frag) (Wo : WX) (D : Ends) : List Cla → WX
  | [] => Wo
  | q :: r => fun cls d σ H => ∃ b, PySem.W.exmOne K cls q.c = some b ∧ (b = true → ∀ a, H a = none → q.ts a cls d (endN q.i D) (onN q.i a σ) H) ∧ (b = false → wCla K Wo D r cls d σ H)
inductive ClaOk (X : Cx) : List ExceptHandler → List Cla → Prop
  | nil : ClaOk X [] []
  | one {x : Str} {q : Cla} {s0 : Stmt} {su : List Stmt} {np hp : Pos} {hs : List ExceptHandler} {l : List Cla} {nm : Option Str} (hc : Names X x q.c)
      (hn : match nm, q.i with | none, none => True | some n, some i => X.N[i]? = some n ∧ X.env.kindOf n = some .local | _, _ => False)
      (hsu : ∀ (a : Addr) (oe : Obj) (cls : Value) (d : Option Addr) (pn : List (Addr × Obj)), Zc cls d oe → (∃ vs, oe.data = .fields vs) → PSs (X.suite a ((a, oe) :: pn)) (s0 :: su) (q.ts a cls d)) (r : ClaOk X hs l) :
      ClaOk X (.ExceptHandler (some (.Name x np)) nm (s0 :: su) hp :: hs) (q :: l)
section
variable {X : Cx} {body : List Stmt} {h0 : ExceptHandler} {hs : List ExceptHandler} {l : List Cla} {pos : Pos} {tb : WX → TS} {Wo : WX}
theorem ps_tryC (stk : X.stack = X.env :: X.outer) (frm : X.env.frame = some X.env.locals) (nd : X.N.Nodup) (tk : Takes X Wo)
    (hb : ∀ (W : WX) (pn : List (Addr × Obj)) (xe : Value → Shared → Prop), Takes (X.tr pn xe) W → PassesOwn (model X.prog X.w) X.A X.env xe → PSs (X.tr pn xe) body (tb W))
    (hh : ClaOk X (h0 :: hs) l) : PS X (.Try body (h0 :: hs) [] [] pos) (fun D σ H => tb (wCla X.K Wo D l) D σ H) := by
  refine ⟨fun pins s σ H D I h => ?_⟩
  have ok := I.ok
  have frs0 : X.A.frames = some (X.env :: X.outer) := by rw [ok.frames, stk]
  refine wpAny_Try_except ?_
  have run := (hb (wCla X.K Wo D l) (X.pn ++ pins) (fun e s1 => wpAny (model X.prog X.w) X.A (noteFrame e X.env) (fun _ s2 => wpAny (model X.prog X.w) X.A (setFlight e none)
    (fun _ s3 => wpAny (model X.prog X.w) X.A (handleBy e X.env (h0 :: hs)) (SP X pins D) X.xe s3) X.xe s2) X.xe s1) (fun u s1 xx => ?c) PassesOwn.looking).run [] s σ H D (I.toTry _) h
  case c =>
    obtain ⟨a, Bh, sI, pins1, τ, H1, cls, d, rfl, J0, nb, up, sky, na, os, ag, wish⟩ := xx
    have J : Inv X pins τ H1 sI := J0.ofTry ok
    rw [stk] at sky
    refine Sky.land Zc.steady frs0 frm sky fun h3 fl3 up3 => ?_
    have J3 : Inv X pins τ H1 { s1 with heap := h3 } := J.landed nb fl3.1 (up.trans up3) os ag
    obtain ⟨o3, v3, g3, z3, d3⟩ := fl3.there
    have out : a ∉ frs (X.env :: X.outer) := fun hm => by
      obtain ⟨_, o', e', nf⟩ := fl3.2.2.1.mem hm
      rw [g3] at e'; cases e'
      exact nf _ d3
    have nL : a ≠ X.env.locals := fun z => out (List.mem_filterMap.mpr ⟨X.env, List.mem_cons_self, by rw [frm, z]⟩)
    have nF : a ∉ X.fs := fun hm => by
      obtain ⟨e, he, q⟩ := List.mem_filterMap.mp hm
      exact out (List.mem_filterMap.mpr ⟨e, List.mem_cons_of_mem _ he, q⟩)
    have S3 := J3.suite g3 d3 na nL nF
    have LT : PySem.W.Looks (model X.prog X.w) h3 (typeOf (.ref a)) cls := fun A Q E s k q => wpAny_typeOf_ref (k _ _ g3) (by rw [z3.1]; exact q)
    suffices go : ∀ (hs' : List ExceptHandler) (l' : List Cla), ClaOk X hs' l' → wCla X.K Wo D l' cls d τ H1 → wpAny (model X.prog X.w) X.A (handleBy (.ref a) X.env hs') (SP X pins D) X.xe { s1 with heap := h3 } from go _ _ hh wish
    intro hs' l' hk
    induction hk with
    | nil =>
      intro w
      refine wpAny_handleBy_nil ?_
      obtain ⟨_, _, _, oe, vs, T, oT, ts', he, hz, hd, h1, hr⟩ := id fl3
      unfold PySem.passOn
      refine wpAny_bind (wpAny_field he hd h1 ?_)
      rw [if_neg (show ¬ ((Value.ref T == Value.none) = true) from by simp)]
      have last : wpAny (model X.prog X.w) X.A (setFlight (.ref a) X.env.frame) (fun _ s4 => wpAny (model X.prog X.w) X.A (throw (.ref a) : Sem Flow) (SP X pins D) X.xe s4) X.xe { s1 with heap := h3 } := by
        rw [frm]
        exact HandSPX.setFlight_upZ fl3 fun h4 k4 up4 => wpAny_throw (tk _ _ ⟨a, Bh, sI, pins, τ, H1, cls, d, rfl, J, nb, (up.trans up3).trans up4, .inr (.inr (by rw [stk]; exact k4)), na, os, ag, w⟩)
      first
        | exact wpAny_bind (wpAny_pure (wpAny_bind last))
        | exact wpAny_bind last
    | @one x q s0 su np hp hs2 l2 nm hc hn hsu r ih =>
      intro w
      obtain ⟨yes, hy, w1, w2⟩ := w
      refine wpAny_handleBy_cons (codeAny_handlers_test ?_) (by intro z; cases z)
      have LM := PySem.W.exm_one (M := model X.prog X.w) (J3.kIn) LT hy
      have named : ∀ {Q : Value → Shared → Prop} {E : Value → Shared → Prop}, Q q.c { s1 with heap := h3 } → wpAny (model X.prog X.w) (X.A.mark (some (.ref a))) (eval (.Name x np) X.env) Q E { s1 with heap := h3 } := fun {Q E} z => by
        obtain ⟨c1, c2, c3 | ⟨c3, c4, c5⟩⟩ := hc
        · exact ld_glob (X := X.suite a ((a, o3) :: (X.pn ++ pins))) S3 c1 c3 z c2
        · exact ld_blt (X := X.suite a ((a, o3) :: (X.pn ++ pins))) S3 c1 c3 c4 z c5 c2
      refine named (LM.here ?_)
      cases yes with
      | false =>
        show wpAny _ X.A (handleBy (.ref a) X.env hs2) _ _ _
        exact ih (w2 rfl)
      | true =>
        have w1 := w1 rfl a na
        obtain ⟨qc, qi, qt⟩ := q
        match nm, qi, hn with
        | none, none, _ =>
          refine codeAny_handlers_suite (HandSPX.lands_againZ fl3 fun h4 fl4 up4 => ?_)
          have J4 : Inv X pins τ H1 { s1 with heap := h4 } := J.landed nb fl4.1 ((up.trans up3).trans up4) os ag
          obtain ⟨o4, v4, g4, z4, d4⟩ := fl4.there
          refine wpAny_mono ((hsu a o4 cls d (X.pn ++ pins) z4 ⟨_, d4⟩).run [] _ _ H1 _ (J4.suite g4 d4 na nL nF) w1) (fun f s6 hsp => ?_) (fun _ _ z => False.elim z)
          cases f with
          | next => obtain ⟨τ6, H6, S6, q6⟩ := hsp; exact ⟨_, _, S6.unsuite ok, q6⟩
          | brk => obtain ⟨τ6, H6, S6, q6⟩ := hsp; exact ⟨_, _, S6.unsuite ok, q6⟩
          | cont => obtain ⟨τ6, H6, S6, q6⟩ := hsp; exact ⟨_, _, S6.unsuite ok, q6⟩
          | ret u => obtain ⟨v6, τ6, H6, S6, r6, q6⟩ := hsp; exact ⟨_, _, _, S6.unsuite ok, r6, q6⟩
        | some n, some i, hn =>
          obtain ⟨hi, hl⟩ := hn
          refine codeAny_handlers_suite_as (HandSPX.lands_againZ fl3 fun h4 fl4 up4 => ?_)
          have J4 : Inv X pins τ H1 { s1 with heap := h4 } := J.landed nb fl4.1 ((up.trans up3).trans up4) os ag
          obtain ⟨o4, v4, g4, z4, d4⟩ := fl4.there
          refine store_ok (X := X.suite a ((a, o4) :: (X.pn ++ pins))) (v := .ref a) (J4.suite g4 d4 na nL nF) nd hi (.inl hl) rfl (fun s5 S5 => ?_) (.inr hl)
          refine wpAny_mono ((hsu a o4 cls d (X.pn ++ pins) z4 ⟨_, d4⟩).run [] s5 _ H1 _ S5 w1) (fun f s6 hsp => ?_) (fun _ _ z => False.elim z)
          have fin : ∀ {τ6 : L2.St} {H6 : Hp} {Q : Shared → Prop}, Inv (X.suite a ((a, o4) :: (X.pn ++ pins))) [] τ6 H6 s6 → (∀ s7, Inv X pins (τ6.set i none) H6 s7 → Q s7) →
              wpAny (model X.prog X.w) X.A (do bindName X.env n .none; unbindBehindTheSuite X.env n hp) (fun _ s7 => Q s7) X.xe s6 := fun S6 hq => gone_ok (S6.unsuite ok) nd hi hl hq
          cases f with
          | next => obtain ⟨τ6, H6, S6, q6⟩ := hsp; exact fin S6 fun s7 J7 => ⟨_, _, J7, q6⟩
          | brk => obtain ⟨τ6, H6, S6, q6⟩ := hsp; exact fin S6 fun s7 J7 => ⟨_, _, J7, q6⟩
          | cont => obtain ⟨τ6, H6, S6, q6⟩ := hsp; exact fin S6 fun s7 J7 => ⟨_, _, J7, q6⟩
          | ret u => obtain ⟨v6, τ6, H6, S6, r6, q6⟩ := hsp; exact fin S6 fun s7 J7 => ⟨_, _, _, J7, r6, q6⟩
  refine wpAny_mono run (fun f s1 hsp => ?_) (fun e s1 he => he)
  cases f with
  | next => obtain ⟨τ, H1, J, q⟩ := hsp; exact wpAny_execs_nil ⟨τ, H1, J.ofTry ok, q⟩
  | brk => obtain ⟨τ, H1, J, q⟩ := hsp; exact ⟨τ, H1, J.ofTry ok, q⟩
  | cont => obtain ⟨τ, H1, J, q⟩ := hsp; exact ⟨τ, H1, J.ofTry ok, q⟩
  | ret u => obtain ⟨v, τ, H1, J, r, q⟩ := hsp; exact ⟨v, τ, H1, J.ofTry ok, r, q⟩
end
end MH
end
section
set_option Elab.async false
set_option linter.all false
set_option maxRecDepth 100000
set_option maxHeartbeats 2000000
set_option autoImplicit false
namespace ML
open PySem PySem.Spec PyProof.Rows L2
def Uv.on (u : Uv) (a : Addr) (c : Value) (d : Option Addr) : Uv := { u with ea := a, ec := c, ed := d }
section
variable {u : Uv} {W : WX} {b : List Nat} {B G0 G G' H H' : Hp} {σ σ' : L2.St} {ε : Env} {ea : Addr} {ec : Value} {ed : Option Addr}
mutual
theorem rep_on : ∀ (x : D) (v : V), Rep (u.on ea ec ed) G x v ↔ Rep u G x v
  | .non, v => by simp only [Rep]
  | .bl _, v => by simp only [Rep]
  | .int _, v => by simp only [Rep]
  | .str _, v => by simp only [Rep]
  | .tup ds, v => by simp only [Rep, repL_on ds]
  | .lst ds, v => by simp only [Rep, repL_on ds]
  | .scr _, v => by simp only [Rep, Uv.on]
  | .dk _ ds, v => by simp only [Rep, repL_on ds]
  | .dt _ ds, v => by simp only [Rep, repL_on ds]
  | .dn _ ds, v => by simp only [Rep, repL_on ds]; simp only [Uv.on]
  | .obj c _ ds, v => by simp only [Rep, repL_on ds]; simp only [Uv.on]
  | .mo c _ ds _, v => by simp only [Rep, repL_on ds]; simp only [Uv.on]
theorem repL_on : ∀ (xs : List D) (vs : List V), RepL (u.on ea ec ed) G xs vs ↔ RepL u G xs vs
  | [], vs => by simp only [RepL]
  | d :: ds, vs => by simp only [RepL, rep_on d, repL_on ds]
end
theorem own_on {l : Addr} {d : D} : Own (u.on ea ec ed) G H l d ↔ Own u G H l d := by
  cases d with
  | lst ds => simp only [Own, repL_on]
  | dk ks ds => simp only [Own, repL_on]
  | dt ks ds => simp only [Own, repL_on]
  | dn ks ds => simp only [Own, repL_on]; simp only [Uv.on]
  | obj c fs ds => simp only [Own, repL_on]; simp only [Uv.on]
  | _ => exact Iff.rfl
theorem xn_on {x : Xn} {c : Value} {dd : Option Addr} : XnOk (u.on ea ec ed) G x c dd ↔ XnOk u G x c dd := by
  simp only [XnOk, repL_on]; simp only [Uv.on]
theorem memT_on {m : Addr} {P : NestedKey → D → Prop} : MemT (u.on ea ec ed) G H m P ↔ MemT u G H m P := by
  simp only [MemT, repL_on]; simp only [Uv.on]
theorem tabT_on {p : Tk} : TabT (u.on ea ec ed) G H p ↔ TabT u G H p := by
  unfold TabT
  cases p.me with
  | none => exact Iff.rfl
  | some P => exact memT_on
theorem tabs_on : TabsOk (u.on ea ec ed) B G H ↔ TabsOk u B G H := ⟨fun t p hp => ⟨tabT_on.mp (t p hp).1, (t p hp).2⟩, fun t p hp => ⟨tabT_on.mpr (t p hp).1, (t p hp).2⟩⟩
def isXn : Sl → Bool
  | .xn _ => true
  | _ => false
def noXn (ε : Env) : Bool := ε.all fun s => !isXn s
theorem RepE.on (R : RepE u B G0 G H σ ε) (h : noXn ε = true) : RepE (u.on ea ec ed) B G0 G H σ ε := by
  refine ⟨R.len, R.g0, R.gb, R.gh, R.bh, fun i s hs => ?_, R.dj, tabs_on.mpr R.tb⟩
  obtain ⟨o, h1, h2⟩ := R.sl i s hs
  refine ⟨o, h1, ?_⟩
  cases s with
  | no => trivial
  | xn x =>
    have := List.all_eq_true.mp h _ (List.mem_of_getElem? hs)
    cases this
  | fz d => obtain ⟨v, a, r⟩ := h2; exact ⟨v, a, (rep_on _ _).mpr r⟩
  | ow d => obtain ⟨l, a, c1, c2, w⟩ := h2; exact ⟨l, a, c1, c2, own_on.mpr w⟩
theorem RepE.off (R : RepE (u.on ea ec ed) B G0 G H σ ε) (h : noXn ε = true) : RepE u B G0 G H σ ε := by
  refine ⟨R.len, R.g0, R.gb, R.gh, R.bh, fun i s hs => ?_, R.dj, tabs_on.mp R.tb⟩
  obtain ⟨o, h1, h2⟩ := R.sl i s hs
  refine ⟨o, h1, ?_⟩
  cases s with
  | no => trivial
  | xn x =>
    have := List.all_eq_true.mp h _ (List.mem_of_getElem? hs)
    cases this
  | fz d => obtain ⟨v, a, r⟩ := h2; exact ⟨v, a, (rep_on _ _).mp r⟩
  | ow d => obtain ⟨l, a, c1, c2, w⟩ := h2; exact ⟨l, a, c1, c2, own_on.mp w⟩
theorem RepE.setX (R : RepE u B G0 G H σ ε) (i : Nat) {x : Xn} (hx : XnOk u G x u.ec u.ed) : RepE u B G0 G H (σ.set i (some (.ref u.ea))) (ε.set i (.xn x)) := by
  have R1 := R.setN i (some (.ref u.ea))
  refine ⟨by simp [R.len], R.g0, R.gb, R.gh, R.bh, fun j s hs => ?_, fun j k a d d' hjk h1 h2 h3 => ?_, R.tb⟩
  · by_cases hj : j = i
    · subst hj
      have hl : j < ε.length := by simpa using (List.getElem?_eq_some_iff.mp hs).1
      rw [List.getElem?_set_self hl] at hs
      cases hs
      exact ⟨_, List.getElem?_set_self (by rw [R.len]; exact hl), rfl, hx⟩
    · rw [List.getElem?_set_ne (Ne.symm hj)] at hs ⊢
      exact R.sl j s hs
  · have ne : ∀ {m : Nat} {d : D}, (ε.set i (.xn x))[m]? = some (.ow d) → m ≠ i := fun {m d} h q => by
      subst q
      by_cases hl : m < ε.length
      · rw [List.getElem?_set_self hl] at h; cases h
      · rw [List.getElem?_eq_none (by simpa using hl)] at h; cases h
    have n1 := ne h1
    have n2 := ne h2
    rw [List.getElem?_set_ne (Ne.symm n1)] at h1 h3
    rw [List.getElem?_set_ne (Ne.symm n2)] at h2 ⊢
    exact R.dj j k a d d' hjk h1 h2 h3
structure ClaM where
  t : Nat → Bool
  i : Option Nat
  F : Env → SO
def onE (i : Option Nat) (x : Xn) (ε : Env) : Env := match i with
  | some j => ε.set j (.xn x)
  | none => ε
def offE (i : Option Nat) (ε : Env) : Env := match i with
  | some j => ε.set j .no
  | none => ε
def leaveS (i : Option Nat) : SO → SO
  | .nx ε => if noXn (offE i ε) = true then .nx (offE i ε) else .bad
  | .rt d ε => if noXn (offE i ε) = true then .rt d (offE i ε) else .bad
  | .bk ε => if noXn (offE i ε) = true then .bk (offE i ε) else .bad
  | .ct ε => if noXn (offE i ε) = true then .ct (offE i ε) else .bad
  | _ => .bad
def claS : List ClaM → Xn → Env → SO
  | [], x, ε => .ex x ε
  | k :: r, x, ε => if k.t x.c = true then leaveS k.i (k.F (onE k.i x ε)) else claS r x ε
def tryF (m : List Nat) (ks : List ClaM) (Fb : Env → SO) : Env → SO := fun ε => match Fb ε with
  | .ex x ε1 => if x.c ∈ m ∧ noXn ε1 = true then claS ks x ε1 else .bad
  | o => o
inductive ClaRzB (u : Uv) (b : List Nat) (m : List Nat) : List MH.Cla → List ClaM → Prop
  | nil : ClaRzB u b m [] []
  | one {q : MH.Cla} {k : ClaM} {l : List MH.Cla} {ks : List ClaM} (hi : q.i = k.i) (ht : ∀ n, n ∈ m → PySem.W.exmOne u.K (.ref (u.xc n)) q.c = some (k.t n)) (hF : ∀ a c d, RzS (u.on a c d) noW b (q.ts a c d) k.F) (hk : ∀ j, k.i = some j → j ∉ b) (r : ClaRzB u b m l ks) : ClaRzB u b m (q :: l) (k :: ks)
theorem kp_on {i : Option Nat} {a : Addr} {b : List Nat} (h : ∀ j, i = some j → j ∉ b) : Kp b σ (MH.onN i a σ) := by
  cases i with
  | none => exact .refl
  | some j => exact kp_set (h j rfl)
theorem kp_off {i : Option Nat} {b : List Nat} (h : ∀ j, i = some j → j ∉ b) : Kp b σ (MH.offN i σ) := by
  cases i with
  | none => exact .refl
  | some j => exact kp_set (h j rfl)
theorem cla_ok {m : List Nat} {l : List MH.Cla} {ks : List ClaM} (h : ClaRzB u b m l ks) {N : Ends} {x : Xn} {c : Value} {dd : Option Addr} {τ : L2.St} (hm : x.c ∈ m) (hn : noXn ε = true) (R : RepE u B G0 G H σ ε) (hx : XnOk u G x c dd)
    (q : PstS u W b τ B G0 G (claS ks x ε) N) (kp : Kp b τ σ) : MH.wCla u.K W N l c dd σ H := by
  induction h with
  | nil => exact q c dd σ G H (Ex.refl _) R kp hx
  | @one p k l ks hi ht hF hk r ih =>
    have ec : c = .ref (u.xc x.c) := hx.1
    refine ⟨k.t x.c, by rw [ec]; exact ht x.c hm, fun hb a na => ?_, fun hb => ih ?_⟩
    · have hp : ∀ j, p.i = some j → j ∉ b := by rw [hi]; exact hk
      have q1 : PstS u W b τ B G0 G (leaveS k.i (k.F (onE k.i x ε))) N := by
        have : claS (k :: ks) x ε = leaveS k.i (k.F (onE k.i x ε)) := by simp only [claS, hb, if_true]
        rw [this] at q; exact q
      have R1 : RepE (u.on a c dd) B G0 G H (MH.onN p.i a σ) (onE k.i x ε) := by
        rw [hi]
        cases k.i with
        | none => exact R.on hn
        | some j => exact RepE.setX (u := u.on a c dd) (R.on hn) j (xn_on.mpr hx)
      refine hF a c dd _ _ _ _ _ _ _ R1 ?_
      have back : ∀ {σ2 : L2.St} {ε2 : Env} {G2 H2 : Hp}, RepE (u.on a c dd) B G0 G2 H2 σ2 ε2 → noXn (offE k.i ε2) = true → RepE u B G0 G2 H2 (MH.offN p.i σ2) (offE k.i ε2) := fun {σ2 ε2 G2 H2} R2 h2 => by
        rw [hi]
        cases e : k.i with
        | none => rw [e] at h2; exact R2.off h2
        | some j => rw [e] at h2; exact (R2.setN j none).off h2
      cases e : k.F (onE k.i x ε) with
      | nx ε2 =>
        rw [e] at q1
        intro σ2 G2 H2 e2 R2 k2
        by_cases h2 : noXn (offE k.i ε2) = true
        · simp only [leaveS, if_pos h2] at q1
          exact q1 _ G2 H2 e2 (back R2 h2) (((kp.trans (kp_on hp)).trans k2).trans (kp_off hp))
        · simp only [leaveS, if_neg h2] at q1; exact q1.elim
      | rt d ε2 =>
        rw [e] at q1
        intro σ2 v G2 H2 e2 R2 k2 rv
        by_cases h2 : noXn (offE k.i ε2) = true
        · simp only [leaveS, if_pos h2] at q1
          exact q1 _ v G2 H2 e2 (back R2 h2) (((kp.trans (kp_on hp)).trans k2).trans (kp_off hp)) ((rep_on _ _).mp rv)
        · simp only [leaveS, if_neg h2] at q1; exact q1.elim
      | bk ε2 =>
        rw [e] at q1
        intro σ2 G2 H2 e2 R2 k2
        by_cases h2 : noXn (offE k.i ε2) = true
        · simp only [leaveS, if_pos h2] at q1
          exact q1 _ G2 H2 e2 (back R2 h2) (((kp.trans (kp_on hp)).trans k2).trans (kp_off hp))
        · simp only [leaveS, if_neg h2] at q1; exact q1.elim
      | ct ε2 =>
        rw [e] at q1
        intro σ2 G2 H2 e2 R2 k2
        by_cases h2 : noXn (offE k.i ε2) = true
        · simp only [leaveS, if_pos h2] at q1
          exact q1 _ G2 H2 e2 (back R2 h2) (((kp.trans (kp_on hp)).trans k2).trans (kp_off hp))
        · simp only [leaveS, if_neg h2] at q1; exact q1.elim
      | ex y ε2 => rw [e] at q1; exact q1.elim
      | bad => rw [e] at q1; exact q1.elim
    · have : claS (k :: ks) x ε = claS ks x ε := by simp only [claS, hb, Bool.false_eq_true, if_false]
      rw [this] at q; exact q
theorem rs_try {m : List Nat} {tb : WX → TS} {Fb : Env → SO} {l : List MH.Cla} {ks : List ClaM} (hb : ∀ W, RzS u W b (tb W) Fb) (hc : ClaRzB u b m l ks) : RzS u W b (fun D σ H => tb (MH.wCla u.K W D l) D σ H) (tryF m ks Fb) := fun B G0 G H σ ε N R q => by
  refine hb _ B G0 G H σ ε N R ?_
  unfold tryF at q
  cases e : Fb ε with
  | ex x ε1 =>
    rw [e] at q
    by_cases h : x.c ∈ m ∧ noXn ε1 = true
    · simp only [if_pos h] at q
      exact fun c dd σ1 G1 H1 e1 R1 k1 rx => cla_ok hc h.1 h.2 R1 rx (PstS.up (G := G) q e1) k1
    · simp only [if_neg h] at q; exact q.elim
  | nx ε1 => rw [e] at q; exact q
  | rt d ε1 => rw [e] at q; exact q
  | bk ε1 => rw [e] at q; exact q
  | ct ε1 => rw [e] at q; exact q
  | bad => rw [e] at q; exact q
end
end ML
end
section
set_option Elab.async false
set_option linter.all false
set_option maxRecDepth 100000
set_option maxHeartbeats 2000000
set_option autoImplicit false
namespace MH
open PySem PySem.Spec PyProof.Rows L2
structure XcC (K : PySem.W.Frag) (D : Addr) : Prop where
  cl : (PySem.W.clsIn K D).isSome = true
  ga : PySem.W.findIn K (.ref D) "__getattribute__" = some (some (.builtin "BaseException.__getattribute__"))
  gt : PySem.W.findIn K (.ref D) "__getattr__" = some none
  sb : PySem.W.subIn K (.ref D) (.type "BaseException") = some true
  ca : PySem.W.findIn K (.ref D) "__class__" = some (some (.builtin "object.__class__"))
  cg : PySem.W.specialIn K (.builtin "object.__class__") "__get__" = some (some (.builtin "getset_descriptor.__get__"))
  tk : PySem.W.takesIn K (.builtin "object.__class__") = some true
  ob : PySem.W.mroIn K D (.type "object") = some true
  hd : PySem.W.hasDictIn K D = true
def rIsX (K : PySem.W.Frag) (a : Addr) (cls : Value) (d : Option Addr) : List V → Hp → VK → Prop := fun xs H Q => ∃ (c : V) (cv : Value) (b : Bool) (D : Addr), xs = [.ref a, c] ∧ (∀ u, RelV c u → u = cv) ∧ cls = .ref D ∧ XcC K D ∧
  (d = none ∨ ∃ dd fs, d = some dd ∧ H dd = some (.xd fs)) ∧ PySem.W.kitOne K (.ref D) cv = some b ∧ Q (.bl b) H
theorem cr_isX {X : Cx} {a : Addr} {cls : Value} {d : Option Addr} {oe : Obj} {pn : List (Addr × Obj)} (hz : Zc cls d oe) (hf : ∃ vs, oe.data = .fields vs) : CallR (X.suite a ((a, oe) :: pn)) (.builtin "isinstance") (rIsX X.K a cls d) := by
  intro pins s σ H xs us Q I r h
  obtain ⟨c, cv, b, D, rfl, hcv, ec, C, hd, e, q⟩ := h
  cases r with
  | cons rx rr =>
    cases rr with
    | cons rt rr =>
      cases rr
      cases rx
      have e1 := hcv _ rt
      subst e1
      obtain ⟨at0, _⟩ := I.pin (a, oe) (List.mem_append.mpr (.inl List.mem_cons_self))
      obtain ⟨vs, hv⟩ := hf
      have nc : PySem.W.notCls oe = true := by unfold PySem.W.notCls; rw [hv]
      have fin : ∀ {od : Option Obj}, PySem.W.InstAt s.heap a oe D od → wpAny (model X.prog X.w) (X.suite a ((a, oe) :: pn)).A (call (.builtin "isinstance") [.ref a, _]) (EP (X.suite a ((a, oe) :: pn)) pins σ Q) (X.suite a ((a, oe) :: pn)).xe s := fun J =>
        PySem.W.kia_one (PySem.W.kitx_exc C.cl C.ga C.gt C.sb C.ca C.cg C.tk C.ob) I.kIn J e (fun z => nomatch z) fun tk => ⟨.bl b, H, I.kept (t' := tk) fun _ _ z => z, rfl, q⟩
      rcases hd with hd | ⟨dd, fs, hd, hH⟩
      · exact fin (od := none) ⟨at0, by rw [hz.1, ec], nc, by rw [hz.2, hd]; trivial⟩
      · have hx : ObjOk X.prog X.w H s.heap dd (.xd fs) := I.hok dd _ hH
        obtain ⟨mA, hns, hr⟩ := hx
        obtain ⟨od, ho, hl⟩ := lookIn_ns hns
        exact fin (od := some od) ⟨at0, by rw [hz.1, ec], nc, by rw [hz.2, hd]; exact ho⟩
def oexB (K : PySem.W.Frag) (C : Addr) : Bool := (match K.lookup C with
  | some ⟨.type "type", _, .cls cd, sl⟩ => (match cd.mro, sl.toList with
    | .ref C' :: bm, [_, _, _, _, some (.builtin n), _] => C' == C && n == "ValueError.__new__" && !cd.hasDel && cd.hasDict && PySem.HandSPX.refsVE bm
    | _, _ => false)
  | _ => false) && (He.eqO (PySem.W.findIn K (.ref C) "__setattr__") (some (some (.builtin "object.__setattr__"))) && (decide (PySem.W.subIn K (.ref C) (.type "BaseException") = some true) && (decide (PySem.W.typeIn K (.ref C) = some (.type "type")) && PySem.W.keepIn K (.ref C))))
theorem oexB_ok {K : PySem.W.Frag} {C : Addr} (h : oexB K C = true) : OexC K C := by
  unfold oexB at h
  simp only [Bool.and_eq_true, decide_eq_true_eq] at h
  obtain ⟨h0, h1, h2, h3, h4⟩ := h
  refine ⟨?_, He.eqO_ok h1, h2, h3, h4⟩
  split at h0
  · rename_i dd cd sl ho
    split at h0
    · rename_i C' bm k0 k1 k2 k3 n k5 hm hs
      simp only [Bool.and_eq_true, beq_iff_eq, Bool.not_eq_true'] at h0
      obtain ⟨⟨⟨⟨rfl, rfl⟩, hdel⟩, hdi⟩, hv⟩ := h0
      obtain ⟨nm, bs, mro, ns, qn, hd, sn, sub, ab, col, del⟩ := cd
      dsimp only at hm hdel hdi
      subst hm hdel hdi
      have hsl : sl = #[k0, k1, k2, k3, some (.builtin "ValueError.__new__"), k5] := by
        obtain ⟨l⟩ := sl
        simp only at hs
        rw [hs]
      subst hsl
      exact ⟨_, _, _, _, _, _, _, _, _, _, _, _, _, _, _, ho, hv⟩
    · cases h0
  · cases h0
def xcB (K : PySem.W.Frag) (D : Addr) : Bool := (PySem.W.clsIn K D).isSome && (He.eqO (PySem.W.findIn K (.ref D) "__getattribute__") (some (some (.builtin "BaseException.__getattribute__"))) && (He.eqO (PySem.W.findIn K (.ref D) "__getattr__") (some none) &&
  (decide (PySem.W.subIn K (.ref D) (.type "BaseException") = some true) && (He.eqO (PySem.W.findIn K (.ref D) "__class__") (some (some (.builtin "object.__class__"))) && (He.eqO (PySem.W.specialIn K (.builtin "object.__class__") "__get__") (some (some (.builtin "getset_descriptor.__get__"))) &&
  (decide (PySem.W.takesIn K (.builtin "object.__class__") = some true) && (decide (PySem.W.mroIn K D (.type "object") = some true) && PySem.W.hasDictIn K D)))))))
theorem xcB_ok {K : PySem.W.Frag} {D : Addr} (h : xcB K D = true) : XcC K D := by
  unfold xcB at h
  simp only [Bool.and_eq_true, decide_eq_true_eq] at h
  obtain ⟨h1, h2, h3, h4, h5, h6, h7, h8, h9⟩ := h
  exact ⟨h1, He.eqO_ok h2, He.eqO_ok h3, h4, He.eqO_ok h5, He.eqO_ok h6, h7, h8, h9⟩
def xallB (K : PySem.W.Frag) (nm : Nat → Addr) (m : List Nat) (sub : Nat → Nat → Bool) : Bool := m.all fun i => xcB K (nm i) && (decide (PySem.W.kitOne K (.ref (nm i)) (.type "ValueError") = some true) &&
  m.all fun j => decide (PySem.W.exmOne K (.ref (nm i)) (.ref (nm j)) = some (sub i j)) && decide (PySem.W.kitOne K (.ref (nm i)) (.ref (nm j)) = some (sub i j)))
structure XAll (K : PySem.W.Frag) (nm : Nat → Addr) (m : List Nat) (sub : Nat → Nat → Bool) : Prop where
  xc : ∀ i, i ∈ m → XcC K (nm i)
  ve : ∀ i, i ∈ m → PySem.W.kitOne K (.ref (nm i)) (.type "ValueError") = some true
  ex : ∀ j, j ∈ m → ∀ i, i ∈ m → PySem.W.exmOne K (.ref (nm i)) (.ref (nm j)) = some (sub i j)
  kt : ∀ j, j ∈ m → ∀ i, i ∈ m → PySem.W.kitOne K (.ref (nm i)) (.ref (nm j)) = some (sub i j)
theorem xallB_ok {K : PySem.W.Frag} {nm : Nat → Addr} {m : List Nat} {sub : Nat → Nat → Bool} (h : xallB K nm m sub = true) : XAll K nm m sub := by
  unfold xallB at h
  simp only [List.all_eq_true, Bool.and_eq_true, decide_eq_true_eq] at h
  exact ⟨fun i hi => xcB_ok (h i hi).1, fun i hi => (h i hi).2.1, fun j hj i hi => ((h i hi).2.2 j hj).1, fun j hj i hi => ((h i hi).2.2 j hj).2⟩
theorem XAll.sub {K : PySem.W.Frag} {nm : Nat → Addr} {m l : List Nat} {sub : Nat → Nat → Bool} (h : XAll K nm m sub) (hl : l.all (fun i => m.contains i) = true) : XAll K nm l sub := by
  have f : ∀ i, i ∈ l → i ∈ m := fun i hi => by simpa using List.all_eq_true.mp hl i hi
  exact ⟨fun i hi => h.xc i (f i hi), fun i hi => h.ve i (f i hi), fun j hj i hi => h.ex j (f j hj) i (f i hi), fun j hj i hi => h.kt j (f j hj) i (f i hi)⟩
end MH
namespace ML
open PySem PySem.Spec PyProof.Rows L2
section
variable {u : Uv} {W : WX} {b : List Nat} {B G0 G G' H H' : Hp} {σ σ' : L2.St} {ε : Env} {a : Addr} {c : Value} {d : Option Addr}
def xnAt (i : Nat) (ε : Env) : Option Xn := match ε[i]? with
  | some (.xn x) => some x
  | _ => none
theorem xnAt_some {i : Nat} {x : Xn} (h : xnAt i ε = some x) : ε[i]? = some (.xn x) := by
  unfold xnAt at h
  split at h
  · cases h; assumption
  · cases h
def xisF (m : List Nat) (i : Nat) (t : Nat → Bool) : Env → Out D := fun ε => match xnAt i ε with
  | some x => if x.c ∈ m then .ok (.bl (t x.c)) ε else .bad
  | none => .bad
theorem rz_xis {m : List Nat} {i : Nat} {t : Nat → Bool} {w : V} {cv : Value} (hw : ∀ z, RelV w z → z = cv) (hx : ∀ n, n ∈ m → MH.XcC u.K (u.xc n)) (ht : ∀ n, n ∈ m → PySem.W.kitOne u.K (.ref (u.xc n)) cv = some (t n)) :
    RzE (u.on a c d) W (tCB (MH.rIsX u.K a c d) (tCons (tVar i) (tCons (tC w) tNil))) (xisF m i t) := fun B G0 G H σ ε Q R q => by
  unfold xisF at q
  cases e : xnAt i ε with
  | none => rw [e] at q; exact q.elim
  | some x =>
    rw [e] at q
    simp only at q
    by_cases hm : x.c ∈ m
    · simp only [if_pos hm] at q
      obtain ⟨o, h1, h2, h3⟩ := R.sl i _ (xnAt_some e)
      subst h2
      have h3 := xn_on.mp h3
      obtain ⟨k1, k2⟩ := h3
      refine ⟨_, h1, w, cv, t x.c, u.xc x.c, rfl, hw, k1, hx _ hm, ?_, ht _ hm, q.ret R _ (rep_bl.mpr rfl)⟩
      rcases k2 with ⟨k2, _⟩ | ⟨dd, ws, k2, k3, _⟩
      · exact .inl k2
      · exact .inr ⟨dd, _, k2, R.gh _ _ k3⟩
    · simp only [if_neg hm] at q; exact q.elim
def xfldD (n : Nat) (g : Str) (x : Xn) : Option D := if x.c = n ∧ x.fs.length = x.ds.length then (x.fs.zip x.ds).lookup g else none
def xfldF (n i : Nat) (g : Str) : Env → Out D := fun ε => match xnAt i ε with
  | some x => Out.opt (xfldD n g x) ε
  | none => .bad
theorem rz_propN {c : Nat} {te : TE} {f : Env → Out D} {F : List D → Rt} (nx : NoEx F) (h : RzE u W te f) : RzE u W (tProp (u.cl c) (SpF u 1 F) [] E0 te) (propF f c F) := fun B G0 G H σ ε Q R q =>
  h _ _ _ _ _ _ _ R (q.bnd.mono fun d ε1 G1 H1 e1 R1 h1 v rv => by
    cases d with
    | obj c' fs ds =>
      by_cases hcc : c' = c
      · subst hcc
        simp only [if_true] at h1
        have rv0 := rv
        simp only [Rep] at rv
        obtain ⟨a, dx, ws, rfl, a1, a2, a3⟩ := rv
        refine ⟨a, dx, fs.zip ws, rfl, R1.gh _ _ a1, spF_of ⟨H1, G1, [.obj c' fs ds], rfl, R1.gh, Ex.refl _, RepL.one rv0, ?_⟩⟩
        cases ef : F [.obj c' fs ds] with
        | ret d => rw [ef] at h1; exact fun v G' H' eg gb gh bh rv => Pst.ret' (a := d) h1 eg (R1.grow eg gb bh gh) v rv
        | exn x => exact absurd ef (nx _ x)
        | bad => rw [ef] at h1; exact h1.elim
      · simp only [if_neg hcc] at h1; exact h1.elim
    | _ => exact h1.elim)
def FnXX (P : Program) (w : World) (K : PySem.W.Frag) (mg : Str → Option Value) (base : Heap) (k : Nat) (ps : List Str) (sp : Sp) (L : Addr → Prop) : Prop :=
  ∃ f fd, FnOk P w K mg base (L2.CX P w) k f fd ps sp ∧ L f ∧ PySem.W.keepIn K (.ref f) = true ∧ Binds K fd ps []
structure ErrC (K : PySem.W.Frag) (mg : Str → Option Value) (x : Str) : Prop where
  gl : mg x = some (.ref (He.ga K x))
  ox : OexC K (He.ga K x)
structure BasC (K : PySem.W.Frag) (mg : Str → Option Value) (x : Str) : Prop where
  gl : mg x = some (.ref (He.ga K x))
  sg : PySem.W.specialIn K (.ref (He.ga K x)) "__getattribute__" = some (some (.builtin "type.__getattribute__"))
  ty : PySem.W.typeIn K (.ref (He.ga K x)) = some (.type "type")
  rd : PySem.W.readsIn K (He.ga K x) (.type "type") = true
  fc : PySem.W.findCls K (.ref (He.ga K x)) (.type "type") "__init__" = some (.val (.builtin "ValueError.__init__"))
def isVal (o : Option PySem.W.CFound) : Bool := match o with
  | some (.val (.builtin "ValueError.__init__")) => true
  | _ => false
end
end ML
end
section
set_option Elab.async false
set_option linter.all false
set_option maxRecDepth 100000
set_option maxHeartbeats 2000000
set_option autoImplicit false
namespace ML
open PySem PySem.Spec PyProof.Rows L2
def errN (n : Nat) : Str := ((["WovenError", "BadAngle", "BadBoard", "BadBreak", "BadBuilder", "BadBuilders", "BadCells", "BadColours", "BadColumn", "BadDeed", "BadDeeds", "BadHeights", "BadJoin", "BadLiftOrder", "BadLines"] : List Str) ++ (["BadLoad", "BadLog", "BadLot", "BadLots", "BadMany", "BadMost", "BadMotion", "BadNumber", "BadOrder", "BadPicture", "BadPlace", "BadPrices", "BadRow", "BadShared", "BadSign"] : List Str) ++ (["BadState", "BadStrengths", "BadThread", "BadThreads", "EmptyLot", "InvalidText", "NoBreak", "NotClosed", "NotLifting", "NotShown", "TooHeavy", "TooHigh", "TooMany"] : List Str)).getD n ""
def xsub (i j : Nat) : Bool := j == 0 || i == j
section
variable {X : Cx} {x : Str} {c : Value} {s0 : Stmt} {su : List Stmt} {np hp : Pos} {hs : List ExceptHandler} {l : List MH.Cla} {ts : Addr → Value → Option Addr → TS}
theorem cla_a {n : Str} {i : Nat} (hc : Names X x c) (hn : X.N[i]? = some n) (hk : X.env.kindOf n = some .local) (hsu : ∀ (a : Addr) (oe : Obj) (cls : Value) (d : Option Addr) (pn : List (Addr × Obj)), Zc cls d oe → (∃ vs, oe.data = .fields vs) → PSs (X.suite a ((a, oe) :: pn)) (s0 :: su) (ts a cls d)) (r : MH.ClaOk X hs l) :
    MH.ClaOk X (.ExceptHandler (some (.Name x np)) (some n) (s0 :: su) hp :: hs) (⟨c, some i, ts⟩ :: l) := .one (q := ⟨c, some i, ts⟩) hc ⟨hn, hk⟩ hsu r
theorem claZ {u : Uv} {m : List Nat} {t : Nat → Bool} {i : Option Nat} {b : List Nat} {F : Env → SO} {ks : List ClaM} (ht : ∀ n, n ∈ m → PySem.W.exmOne u.K (.ref (u.xc n)) c = some (t n)) (hF : ∀ a cv d, RzS (u.on a cv d) noW b (ts a cv d) F) (r : ClaRzB u b m l ks) (hk : (i.all fun j => decide (j ∉ b)) = true := by decide) :
    ClaRzB u b m (⟨c, i, ts⟩ :: l) (⟨t, i, F⟩ :: ks) := .one (q := ⟨c, i, ts⟩) (k := ⟨t, i, F⟩) rfl ht hF (fun j e => by subst e; simpa using hk) r
end
def errB (K : PySem.W.Frag) (x : Str) : Bool := oexB' K x
where oexB' (K : PySem.W.Frag) (x : Str) : Bool := MH.oexB K (He.ga K x)
def initB (K : PySem.W.Frag) (x : Str) : Bool := He.eqO (PySem.W.findIn K (.ref (He.ga K x)) "__init__") (some (some (.ref (He.fAd K (x, some "__init__"))))) && decide (PySem.W.typeIn K (.ref (He.fAd K (x, some "__init__"))) = some (.type "function"))
theorem initB_ok {K : PySem.W.Frag} {x : Str} (h : initB K x = true) : PySem.W.findIn K (.ref (He.ga K x)) "__init__" = some (some (.ref (He.fAd K (x, some "__init__")))) ∧ PySem.W.typeIn K (.ref (He.fAd K (x, some "__init__"))) = some (.type "function") := by
  unfold initB at h
  simp only [Bool.and_eq_true, decide_eq_true_eq] at h
  exact ⟨He.eqO_ok h.1, h.2⟩
def basB (K : PySem.W.Frag) (x : Str) : Bool := He.eqO (PySem.W.specialIn K (.ref (He.ga K x)) "__getattribute__") (some (some (.builtin "type.__getattribute__"))) && (decide (PySem.W.typeIn K (.ref (He.ga K x)) = some (.type "type")) &&
  (PySem.W.readsIn K (He.ga K x) (.type "type") && isVal (PySem.W.findCls K (.ref (He.ga K x)) (.type "type") "__init__")))
theorem isVal_ok {o : Option PySem.W.CFound} (h : isVal o = true) : o = some (.val (.builtin "ValueError.__init__")) := by
  unfold isVal at h
  split at h
  · rfl
  · cases h
theorem basB_ok {K : PySem.W.Frag} {mg : Str → Option Value} {x : Str} (g : mg x = some (.ref (He.ga K x))) (h : basB K x = true) : BasC K mg x := by
  unfold basB at h
  simp only [Bool.and_eq_true, decide_eq_true_eq] at h
  exact ⟨g, He.eqO_ok h.1, h.2.1, h.2.2.1, isVal_ok h.2.2.2⟩
theorem errB_ok {K : PySem.W.Frag} {mg : Str → Option Value} {x : Str} (g : mg x = some (.ref (He.ga K x))) (h : errB K x = true) : ErrC K mg x := ⟨g, MH.oexB_ok h⟩
def ErrI (P : Program) (w : World) (K : PySem.W.Frag) (mg : Str → Option Value) (base : Heap) (C : Addr) (ps : List Str) (sp : Sp) : Prop :=
  ∃ f fd, FnOk P w K mg base CX0 1 f fd ps sp ∧ PySem.W.findIn K (.ref C) "__init__" = some (some (.ref f)) ∧ PySem.W.typeIn K (.ref f) = some (.type "function") ∧ Binds K fd ps []
section
variable {X : Cx} {x : Str} {p pos pos' : Pos} {e : Expr} {es : List Expr} {ta : TA} {W : WX}
theorem ps_raise0 (tk : Takes X W) (E : ErrC X.K X.mg x) (I : ErrI X.prog X.w X.K X.mg X.base (He.ga X.K x) ["self"] (MH.spE0 X.K)) (hr : Room 2 X.A) (hc : X.calm = true) (hg : Gl X x) (hdb : (x == ("__debug__" : Str)) = false := by decide) :
    PS X (.Raise (some (.Call (.Name x p) [] [] pos)) none pos') (fun _ σ H => W (.ref (He.ga X.K x)) none σ H) := by
  obtain ⟨f, fd, F1, i, t, b⟩ := I
  exact ps_raise hc tk (MH.pmk_e0 E.ox i t F1 hr b hg E.gl hdb)
end
theorem XAll.hnd {K : PySem.W.Frag} {nm : Nat → Addr} {m l : List Nat} (h : MH.XAll K nm m xsub) (k : Nat) (hl : (k :: l).all (fun i => m.contains i) = true) : ∀ n, n ∈ l → PySem.W.exmOne K (.ref (nm n)) (.ref (nm k)) = some (xsub n k) := fun n hn =>
  (h.sub hl).ex k List.mem_cons_self n (List.mem_cons_of_mem _ hn)
end ML
end
section
set_option Elab.async false
set_option linter.all false
set_option maxRecDepth 100000
set_option maxHeartbeats 2000000
set_option autoImplicit false
namespace MH
open PySem PySem.Spec PyProof.Rows L2 HT
section
variable {prog : Program} {w : World} {A : Around} {E : Value → Shared → Prop} {s : Shared}
end
section
variable {X : Cx}
end
end MH
namespace ML
open PySem PySem.Spec PyProof.Rows L2
section
variable {u : Uv} {W : WX} {b : List Nat} {B G0 G G' H H' : Hp} {σ σ' : L2.St} {ε : Env}
def revD : D → Option D
  | .tup xs => some (.tup xs.reverse)
  | _ => none
def addM (fa fb : Env → Out D) : Env → Out Sl := fun ε => (fa ε).bnd fun x ε1 => (fb ε1).bnd fun y ε2 => match x, y with
  | .lst xs, .lst ys => if xs.length + ys.length ≤ 100000 then .ok (.ow (.lst (xs ++ ys))) ε2 else .bad
  | _, _ => .bad
def mulM (fa fb : Env → Out D) : Env → Out Sl := fun ε => (fa ε).bnd fun x ε1 => (fb ε1).bnd fun y ε2 => match x, y with
  | .lst xs, .int n => if -1000 ≤ n ∧ n ≤ 100000 ∧ xs.length * n.toNat ≤ 100000 then .ok (.ow (.lst (List.replicate n.toNat xs).flatten)) ε2 else .bad
  | _, _ => .bad
end
end ML
end
section
set_option Elab.async false
set_option linter.all false
set_option maxRecDepth 100000
set_option maxHeartbeats 2000000
set_option autoImplicit false
namespace MH
open PySem PySem.Spec PyProof.Rows L2
section
variable {X : Cx}
end
end MH
namespace ML
open PySem PySem.Spec PyProof.Rows L2
section
variable {u : Uv} {W : WX} {b : List Nat} {B G0 G G' H H' : Hp} {σ σ' : L2.St} {ε : Env}
def WH (u : Uv) (js : List Nat) (B G0 G : Hp) (σ : L2.St) (Q : L2.St → Hp → Prop) : SO → Prop
  | .nx ε' => ∀ σ' G' H', Ex G G' → RepE u B G0 G' H' σ' ε' → Only js σ σ' → Q σ' H'
  | _ => False
theorem WH.up {js : List Nat} {Q : L2.St → Hp → Prop} {o : SO} (h : WH u js B G0 G σ Q o) (e : Ex G G') : WH u js B G0 G' σ Q o := by
  cases o <;> first | exact h.elim | skip
  exact fun σ' G2 H2 e2 R => h σ' G2 H2 (e.trans e2) R
def gnH (i : Nat) : D → Env → SO := fun d ε => .nx (ε.set i (.fz d))
def gnilH : List D → Env → SO
  | [], ε => .nx ε
  | _, _ => .bad
def SO.thnH (o : SO) (F : Env → SO) : SO := match o with
  | .nx ε => F ε
  | _ => .bad
def gconsH (gf : D → Env → SO) (gs : List D → Env → SO) : List D → Env → SO
  | d :: ds, ε => (gf d ε).thnH fun ε1 => gs ds ε1
  | [], _ => .bad
def gtupH (n : Nat) (gs : List D → Env → SO) : D → Env → SO
  | .tup ds, ε => if ds.length = n then gs ds ε else .bad
  | _, _ => .bad
theorem WH.bnd {α : Type} {js : List Nat} {Q : L2.St → Hp → Prop} {o : Out α} {k : α → Env → SO} (h : WH u js B G0 G σ Q (o.toS k)) : Pst u W B G0 σ G o (fun a ε' G' _ => WH u js B G0 G' σ Q (k a ε')) := by
  cases o with
  | ok a ε => exact fun G' H' e _ => WH.up (G := G) h e
  | ex x ε => exact h.elim
  | bad => exact h.elim
def subH (i : Nat) (fk : Env → Out D) : D → Env → SO := fun d ε => match ownL i ε with
  | none => .bad
  | some _ => (fk ε).toS fun k ε2 => match k, ownL i ε2 with
    | .int k, some ds => (match ixN ds.length k with
      | some j => .nx (ε2.set i (.ow (.lst (ds.set j d))))
      | none => .bad)
    | _, _ => .bad
def dsubH (i : Nat) (fk : Env → Out D) : D → Env → SO := fun d ε => match ownAt i ε with
  | none => .bad
  | some _ => (fk ε).toS fun k ε2 => match (ownAt i ε2).bind fun x => dput x k d with
    | some x' => .nx (ε2.set i (.ow x'))
    | none => .bad
def asgH (f : Env → Out D) (gf : D → Env → SO) : Env → SO := fun ε => (f ε).toS fun d ε1 => (gf d ε1).thnH .nx
def augF (i : Nat) (fe : Env → Out D) (f : Int → Int → Int) : Env → SO := fun ε => match ε[i]? with
  | some (.fz (.int x)) => (fe ε).toS fun y ε1 => match y with
    | .int y => .nx (ε1.set i (.fz (.int (f x y))))
    | _ => .bad
  | _ => .bad
def augI (i : Nat) (fk fe : Env → Out D) (f : Int → Int → Int) : Env → SO := fun ε => match ownL i ε with
  | none => .bad
  | some _ => (fk ε).toS fun k ε1 => match k, ownL i ε1 with
    | .int (.ofNat n), some ds => (match ds[n]? with
      | some (.int x) => (fe ε1).toS fun y ε2 => (match y, ownL i ε2 with
        | .int y, some es => if n < es.length then .nx (ε2.set i (.ow (.lst (es.set n (.int (f x y)))))) else .bad
        | _, _ => .bad)
      | _ => .bad)
    | _, _ => .bad
end
end ML
end
section
set_option Elab.async false
set_option linter.all false
set_option maxRecDepth 100000
set_option maxHeartbeats 2000000
set_option autoImplicit false
namespace MH
open PySem PySem.Spec PyProof.Rows L2
section
variable {X : Cx}
end
end MH
namespace ML
open PySem PySem.Spec PyProof.Rows L2
section
variable {u : Uv} {W : WX} {b : List Nat} {B G0 G G' H H' : Hp} {σ σ' : L2.St} {ε : Env}
def dcL (vs : List Nat) (gf : D → Env → Option Env) (tf : Env → Out Bool) (kf ef : Env → Out D) : List D → List Key → List D → Env → Out (List Key × List D)
  | [], ks, xs, ε => .ok (ks, xs) ε
  | d :: ds, ks, xs, ε => match gf d ε with
    | none => .bad
    | some ε1 => match tf ε1 with
      | .ok true ε2 => (match kf ε2 with
        | .ok y ε3 => (match ef ε3 with
          | .ok z ε4 => (match toKey y with
            | some k => if xs.length < 100000 then dcL vs gf tf kf ef ds (putD ks xs k z).1 (putD ks xs k z).2 (wipeE ε4 vs) else .bad
            | none => .bad)
          | _ => .bad)
        | _ => .bad)
      | .ok false ε2 => dcL vs gf tf kf ef ds ks xs (wipeE ε2 vs)
      | _ => .bad
def mkD : List Key × List D → Env → Out Sl := fun p ε => .ok (.ow (.dk p.1 p.2)) ε
def dcM (vs : List Nat) (fi : Env → Out (List D)) (gf : D → Env → Option Env) (tf : Env → Out Bool) (kf ef : Env → Out D) : Env → Out Sl := fun ε => (fi ε).bnd fun ds ε1 => (dcL vs gf tf kf ef ds [] [] (wipeE ε1 vs)).bnd mkD
end
end ML
end
section
set_option Elab.async false
set_option linter.all false
set_option maxRecDepth 100000
set_option maxHeartbeats 2000000
set_option autoImplicit false
namespace MH
open PySem PySem.Spec PyProof.Rows L2
inductive Src where
  | l (a : Addr) | t (a : Addr) | s (z : Str)
def Src.v : Src → V
  | .l a => .ref a
  | .t a => .ref a
  | .s z => .str z
def Src.ad : Src → List Addr
  | .l a => [a]
  | .t a => [a]
  | .s _ => []
def Src.has (K : PySem.W.Frag) (H : Hp) : Src → List V → Prop
  | .l a, xs => SqL K H a xs
  | .t a, xs => SqT K H a xs
  | .s z, xs => xs = z.cps.toList.map fun c => V.str ⟨#[c]⟩
def Src.at_ (h : Heap) (it : Addr) (i : Nat) : Src → Prop
  | .l a => h.IsListIter it a i
  | .t a => h.IsTupleIter it a i
  | .s z => ∃ t, h.IsStrIter it (strIterType z) z t i
section
variable {X : Cx} {pins : List (Addr × Obj)} {σ : L2.St} {H : Hp} {s : Shared}
theorem Src.inj (I : Inv X pins σ H s) {q : Src} {xs ys : List V} (h : q.has X.K H xs) (h' : q.has X.K H ys) : xs = ys := by
  cases q with
  | l a => exact I.list_inj h h'
  | t a => exact I.tuple_inj h h'
  | s z => exact h.trans h'.symm
theorem Src.lt (I : Inv X pins σ H s) {q : Src} {xs : List V} (h : q.has X.K H xs) : ∀ a ∈ q.ad, a < s.heap.objs.size := fun a ha => by
  cases q with
  | l b => obtain ⟨its, rv, p, _⟩ := I.list h; have : a = b := by simpa [Src.ad] using ha
           subst this; exact p.lt
  | t b => obtain ⟨its, rv, ⟨o, ho, _⟩, _⟩ := I.tuple h; have : a = b := by simpa [Src.ad] using ha
           subst this; exact Heap.lt_size ho
  | s z => simp [Src.ad] at ha
end
end MH
namespace ML
open PySem PySem.Spec PyProof.Rows L2
section
variable {u : Uv} {W : WX} {b : List Nat} {B G0 G G' H H' : Hp} {σ σ' : L2.St} {ε : Env}
def zipItems (d e : D) : Option (List D) := match itemsD d, itemsD e with
  | some xs, some ys => some (List.zipWith (fun x y => D.tup [x, y]) xs ys)
  | _, _ => none
def zipF (fa : Env → Out (List D)) : Env → Out (List D) := fun ε => (fa ε).bnd fun ds ε1 => match ds with
  | [d, e] => Out.opt (zipItems d e) ε1
  | _ => .bad
end
end ML
end
section
set_option Elab.async false
set_option linter.all false
set_option maxRecDepth 100000
set_option maxHeartbeats 2000000
set_option autoImplicit false
namespace ML
open PySem PySem.Spec PyProof.Rows L2
structure KdF (K : PySem.W.Frag) (w : World) (mg : Str → Option Value) (x : Str) (ps : List (Str × Str)) : Prop where
  gl : mg x = some (.ref (He.ga K x))
  at_ : ∀ z v, ps.lookup z = some v → KDct K w (He.ga K x) z (.str v)
def kdictD (ps : List (Str × Str)) : D → Option D
  | .str z => (ps.lookup z).map D.str
  | _ => none
section
variable {u : Uv} {W : WX} {b : List Nat} {B G0 G G' H H' : Hp} {σ σ' : L2.St} {ε : Env}
def pushM : List Addr → List Addr → Nat → (List Addr → Nat → List Addr) → List Addr
  | [], new, m, k => k new m
  | r :: rs, new, m, k => match Nat.testBit m r with
    | true => pushM rs new m k
    | false => HandSHeadRun.frNat r fun r' => HandSHeadRun.frNat (Nat.lor m (Nat.shiftLeft 1 r')) fun m' => pushM rs (r' :: new) m' k
def levelM (g : Addr → Option Obj) : List Addr → List Addr → Nat → (List Addr → Nat → List Addr) → List Addr
  | [], new, m, k => k new m
  | a :: as, new, m, k => match g a with
    | some o => pushM (He.refsD o) new m fun new' m' => levelM g as new' m' k
    | none => levelM g as new m k
def asL (g : Addr → Option Obj) : Nat → List Addr → Nat → List Addr
  | 0, fr, _ => fr
  | n + 1, fr, m => levelM g fr [] m fun new m' => fr ++ asL g n new m'
def asM (g : Addr → Option Obj) (n : Nat) : List Addr := asL g n [mainGlobals] (Nat.shiftLeft 1 mainGlobals)
abbrev AlZ : Type := AlY × List (Option (List (Option (Str × Int))))
def obsZ (fa : List He.Fa) (fn : List He.DefD) (pr : List ((Str × Str) × He.DefD)) (ck : List (PySem.W.Frag → Bool)) (ts : List (Str × List Str)) (K : PySem.W.Frag) : AlZ := (obsY fa fn pr ck K, ts.map fun t => He.dicW K (He.ga K t.1))
def obsZG (n : Nat) (ex : List Addr) (fa : List He.Fa) (fn : List He.DefD) (pr : List ((Str × Str) × He.DefD)) (ck : List (PySem.W.Frag → Bool)) (ts : List (Str × List Str)) (g : Addr → Option Obj) : AlZ := obsZ fa fn pr ck ts (He.frG g (asM g n ++ ex))
structure SaysZ (fa : List He.Fa) (fn : List He.DefD) (pr : List ((Str × Str) × He.DefD)) (ck : List (PySem.W.Frag → Bool)) (ts : List (Str × List Str)) (w : World) (K : PySem.W.Frag) : Prop where
  y : SaysY fa fn pr ck K
  t : (ts.map fun t => He.dicW K (He.ga K t.1)) = ts.map fun t => some (He.keysIn w.params t.2)
def hookZ (n : Nat) (ex : List Addr) (fa : List He.Fa) (fn : List He.DefD) (pr : List ((Str × Str) × He.DefD)) (ck : List (PySem.W.Frag → Bool)) (ts : List (Str × List Str)) : PySem.W.Hook where
  α := AlZ
  obs := fun s => obsZG n ex fa fn pr ck ts s.heap.get?
  val := fun w => (((He.valD fn, true), pr.map fun x : (Str × Str) × He.DefD => x.2.val), ts.map fun t => some (He.keysIn w.params t.2))
  says := fun w h => ∃ K : PySem.W.Frag, K.In h ∧ SaysZ fa fn pr ck ts w K
  of := fun _ s e => ⟨He.frG s.heap.get? (asM s.heap.get? n ++ ex), He.frG_in, saysY_of (congrArg Prod.fst e), congrArg Prod.snd e⟩
  keeps := fun _ _ _ ⟨K, hK, c⟩ k => ⟨K, PySem.W.Frag.In.keeps hK k, c⟩
theorem obsZG_eq {n : Nat} {ex : List Addr} {fa : List He.Fa} {fn : List He.DefD} {pr : List ((Str × Str) × He.DefD)} {ck : List (PySem.W.Frag → Bool)} {ts : List (Str × List Str)} {g : Addr → Option Obj} {s : Shared} (h : ∀ a, g a = s.heap.get? a) : obsZG n ex fa fn pr ck ts g = (hookZ n ex fa fn pr ck ts).obs s := by
  have e : g = s.heap.get? := funext h
  rw [e]; rfl
theorem SaysZ.tab {fa : List He.Fa} {fn : List He.DefD} {pr : List ((Str × Str) × He.DefD)} {ck : List (PySem.W.Frag → Bool)} {ts : List (Str × List Str)} {w : World} {K : PySem.W.Frag} (S : SaysZ fa fn pr ck ts w K) (i : Nat) {x : Str} {ks : List Str} (h : ts[i]? = some (x, ks)) : ∃ es n, KDict K w (He.ga K x) es n := by
  have e := congrArg (fun l : List (Option (List (Option (Str × Int)))) => l[i]?) S.t
  simp only [List.getElem?_map, h, Option.map_some, Option.some.injEq] at e
  exact He.dicW_ok e
end
end ML
end
section
set_option Elab.async false
set_option linter.all false
set_option maxRecDepth 100000
set_option maxHeartbeats 2000000
set_option autoImplicit false
namespace ML
open PySem PySem.Spec PyProof.Rows L2
mutual
def noLst : D → Bool
  | .lst _ => false
  | .scr _ => false
  | .tup ds => noLsts ds
  | .dk _ ds => noLsts ds
  | .dt _ ds => noLsts ds
  | .dn _ _ => false
  | .mo _ _ _ _ => false
  | .obj _ _ ds => noLsts ds
  | .non => true
  | .bl _ => true
  | .int _ => true
  | .str _ => true
def noLsts : List D → Bool
  | [] => true
  | d :: ds => noLst d && noLsts ds
end
section
variable {u : Uv} {W : WX} {b : List Nat} {B G0 G G' H H' : Hp} {σ σ' : L2.St} {ε : Env}
inductive Arg where
  | d (d : D) | s (i : Nat)
def ArgOk (u : Uv) (G : Hp) (σ : L2.St) : Arg → V → Prop
  | .d d, v => Rep u G d v
  | .s i, v => σ[i]? = some (some v)
def ArgsOk (u : Uv) (G : Hp) (σ : L2.St) : List Arg → List V → Prop
  | [], vs => vs = []
  | a :: as, vs => ∃ v r, vs = v :: r ∧ ArgOk u G σ a v ∧ ArgsOk u G σ as r
theorem ArgsOk.mono (e : Ex G G') : ∀ {as : List Arg} {vs : List V}, ArgsOk u G σ as vs → ArgsOk u G' σ as vs
  | [], _, h => h
  | a :: as, vs, h => by
    obtain ⟨v, r, q, h1, h2⟩ := h
    refine ⟨v, r, q, ?_, ArgsOk.mono e h2⟩
    cases a with
    | d d => exact Rep.mono e d h1
    | s i => exact h1
def anilF : Env → Out (List Arg) := fun ε => .ok [] ε
def aconsF (fa : Env → Out D) (fr : Env → Out (List Arg)) : Env → Out (List Arg) := fun ε => (fa ε).bnd fun x ε1 => (fr ε1).bnd fun xs ε2 => .ok (.d x :: xs) ε2
def alendF (i : Nat) (fr : Env → Out (List Arg)) : Env → Out (List Arg) := fun ε => match ownL i ε with
  | none => .bad
  | some _ => (fr ε).bnd fun xs ε2 => .ok (.s i :: xs) ε2
def argD (ε : Env) : Arg → Option D
  | .d d => some d
  | .s i => (ownL i ε).map D.lst
def argsD (ε : Env) : List Arg → Option (List D)
  | [] => some []
  | a :: as => (argD ε a).bind fun d => (argsD ε as).map fun ds => d :: ds
def callLO (r : Rt) (ε : Env) : Out D := match r with
  | .ret d => if noLst d = true then .ok d ε else .bad
  | _ => .bad
def callLF (n : Nat) (fa : Env → Out (List Arg)) (F : List D → Rt) : Env → Out D := fun ε => (fa ε).bnd fun as ε1 => match argsD ε1 as with
  | some ds => if ds.length = n then callLO (F ds) ε1 else .bad
  | none => .bad
end
end ML
end
section
set_option Elab.async false
set_option linter.all false
set_option maxRecDepth 100000
set_option autoImplicit false
namespace MH
open PySem PySem.Spec PyProof.Rows L2
section
variable {prog : Program} {w : World} {A : Around} {E : Value → Shared → Prop} {s : Shared} {t : Addr}
theorem iterTup {xs : Array (Int × Tok)} {Q : Value → Shared → Prop} (hl : s.heap.IsTuple t (intItems xs))
    (h : ∀ s₂ : Shared, s₂ = { s with heap := s.heap.push { cls := .type "tuple_iterator", data := .fields #[.ref t, .int 0 0] } } →
      (s₂.heap.IsTupleIter s.heap.objs.size t 0 ∧ s₂.heap.IsTuple t (intItems xs)) → (∀ b ∈ [s.heap.objs.size, t], b < s₂.heap.objs.size) → t ≠ s.heap.objs.size → Q (.ref s.heap.objs.size) s₂) :
    wpAny (model prog w) A (pyIter (.ref t)) Q E s := by
  have hlt : t < s.heap.objs.size := by obtain ⟨_, e, _⟩ := hl; exact Heap.lt_size e
  refine wpAny_pyIter_tuple hl (h _ rfl ⟨⟨_, Heap.get?_push_size _ rfl, rfl, rfl⟩, hl.push _⟩ (fun b hb => ?_) (Nat.ne_of_lt hlt))
  show b < (s.heap.push _).objs.size
  rw [Heap.size_push]
  rcases List.mem_cons.mp hb with rfl | hb
  · exact Nat.lt_succ_self _
  · rcases List.mem_cons.mp hb with rfl | hb
    · exact Nat.lt_succ_of_lt hlt
    · cases hb
theorem oldT {h' : Heap} (hk : ∀ b o, b ∉ [s.heap.objs.size] → (s.heap.push { cls := .type "tuple_iterator", data := .fields #[.ref t, .int 0 0] }).get? b = some o → h'.get? b = some o) :
    ∀ b o, s.heap.get? b = some o → h'.get? b = some o := fun b o e => by
  refine hk b o (fun hm => ?_) (Heap.get?_push_of_some _ e)
  rcases List.mem_cons.mp hm with e1 | hm
  · exact absurd (e1 ▸ Heap.lt_size e) (Nat.lt_irrefl _)
  · cases hm
theorem max_tup {its : List Value} {ns : List Int} {Q : Value → Shared → Prop} (hh : A.handled = none) (hl : s.heap.IsTuple t its.toArray) (hi : IntsAre its ns) (hne : 0 < ns.length)
    (h : ∀ h' tk M t', (∀ b o, s.heap.get? b = some o → h'.get? b = some o) → M ∈ ns → (∀ a, a ∈ ns → a ≤ M) → Q (.int M t') { s with heap := h', toks := tk }) : wpAny (model prog w) A (call (.builtin "max") [.ref t]) Q E s := by
  obtain ⟨xs, e⟩ := hi.allInts.items
  have hn : numsOf (intItems xs).toList = ns := by rw [← e]; exact hi.numsOf
  rw [nums_intItems] at hn
  subst hn
  rw [e] at hl
  have hsz : 0 < xs.size := by simpa using hne
  refine call_max_walk (iterTup hl fun s₂ e st hfp hlI => ?_)
  subst e
  refine ⟨_, _, _, _, _, _, _, rfl, Walks.tuple (A := A.in1) hh _ t hlI (intItems xs), st, hfp, by simpa [intItems] using hsz, CmpOf.ints_gt (numAt xs) (fun _ _ => intItems_at), fun v h' tk hP hk => ?_⟩
  have hP : (intItems xs)[argBest (fun i j => decide (numAt xs i > numAt xs j)) (xs.size - 1)]? = some v := by simpa [intItems] using hP
  obtain ⟨t, rfl⟩ := intItems_at hP
  obtain ⟨h1, h2⟩ := argBest_gt (numAt xs) (xs.size - 1)
  refine h h' tk _ t (oldT hk) ?_ fun a ha => ?_
  · rw [numAt_eq]; exact PySem.getD_mem (by rw [List.length_map, Array.length_toList]; omega)
  · obtain ⟨j, hj, rfl⟩ := mem_getD ha
    rw [List.length_map, Array.length_toList] at hj
    rw [← numAt_eq]; exact h2 j (by omega)
theorem min_tup {its : List Value} {ns : List Int} {Q : Value → Shared → Prop} (hh : A.handled = none) (hl : s.heap.IsTuple t its.toArray) (hi : IntsAre its ns) (hne : 0 < ns.length)
    (h : ∀ h' tk M t', (∀ b o, s.heap.get? b = some o → h'.get? b = some o) → M ∈ ns → (∀ a, a ∈ ns → M ≤ a) → Q (.int M t') { s with heap := h', toks := tk }) : wpAny (model prog w) A (call (.builtin "min") [.ref t]) Q E s := by
  obtain ⟨xs, e⟩ := hi.allInts.items
  have hn : numsOf (intItems xs).toList = ns := by rw [← e]; exact hi.numsOf
  rw [nums_intItems] at hn
  subst hn
  rw [e] at hl
  have hsz : 0 < xs.size := by simpa using hne
  refine call_min_walk (iterTup hl fun s₂ e st hfp hlI => ?_)
  subst e
  refine ⟨_, _, _, _, _, _, _, rfl, Walks.tuple (A := A.in1) hh _ t hlI (intItems xs), st, hfp, by simpa [intItems] using hsz, CmpOf.ints_lt (numAt xs) (fun _ _ => intItems_at), fun v h' tk hP hk => ?_⟩
  have hP : (intItems xs)[argBest (fun i j => decide (numAt xs i < numAt xs j)) (xs.size - 1)]? = some v := by simpa [intItems] using hP
  obtain ⟨t, rfl⟩ := intItems_at hP
  obtain ⟨h1, h2⟩ := argBest_lt (numAt xs) (xs.size - 1)
  refine h h' tk _ t (oldT hk) ?_ fun a ha => ?_
  · rw [numAt_eq]; exact PySem.getD_mem (by rw [List.length_map, Array.length_toList]; omega)
  · obtain ⟨j, hj, rfl⟩ := mem_getD ha
    rw [List.length_map, Array.length_toList] at hj
    rw [← numAt_eq]; exact h2 j (by omega)
end
section
variable {X : Cx}
def rMaxT (K : PySem.W.Frag) : List V → Hp → VK → Prop := fun vs H Q => ∃ (a : Addr) (ns : List Int), vs = [V.ref a] ∧ (SqL K H a (ns.map V.int) ∨ SqT K H a (ns.map V.int)) ∧ 0 < ns.length ∧ ∀ m, m ∈ ns → (∀ y, y ∈ ns → y ≤ m) → Q (.int m) H
def rMinT (K : PySem.W.Frag) : List V → Hp → VK → Prop := fun vs H Q => MH.rMinD K vs H Q ∨ ∃ (a : Addr) (ns : List Int), vs = [V.ref a] ∧ SqT K H a (ns.map V.int) ∧ 0 < ns.length ∧ ∀ m, m ∈ ns → (∀ y, y ∈ ns → m ≤ y) → Q (.int m) H
theorem cr_maxT (hc : X.calm = true) : CallR X (.builtin "max") (rMaxT X.K) := by
  intro pins s σ H vs us Q I r h
  obtain ⟨a, ns, rfl, hs, hne, q⟩ := h
  rcases hs with hs | hs
  · exact cr_max hc pins s σ H _ us Q I r ⟨a, ns, rfl, hs, hne, q⟩
  · obtain ⟨its, rv, hl, _⟩ := I.tuple hs
    rw [Vals.ref1 r]
    exact max_tup (I.ok.hd hc) hl rv.ints hne fun h' tk m t' hk h1 h2 => ⟨.int _, H, I.kept hk, ⟨_, rfl⟩, q m h1 h2⟩
theorem cr_minT {k : Nat} (hr : Room k X.A) (hc : X.calm = true) : CallR X (.builtin "min") (rMinT X.K) := by
  intro pins s σ H vs us Q I r h
  rcases h with h | ⟨a, ns, rfl, hs, hne, q⟩
  · exact MH.cr_minD hr hc pins s σ H _ us Q I r h
  · obtain ⟨its, rv, hl, _⟩ := I.tuple hs
    rw [Vals.ref1 r]
    exact min_tup (I.ok.hd hc) hl rv.ints hne fun h' tk m t' hk h1 h2 => ⟨.int _, H, I.kept hk, ⟨_, rfl⟩, q m h1 h2⟩
end
end MH
namespace ML
open PySem PySem.Spec PyProof.Rows L2
section
variable {u : Uv} {W : WX}
def sumTD : List D → Option D := oneD fun
  | .lst ds => sumD [.lst ds]
  | .tup ds => (intsD ds).map fun bs => .int bs.sum
  | _ => none
def minI : List Int → Option Int
  | [] => none
  | n :: ns => some (ns.foldl min n)
theorem minI_spec : ∀ (ns : List Int) (n : Int), (ns.foldl min n ∈ n :: ns) ∧ ∀ y ∈ n :: ns, ns.foldl min n ≤ y
  | [], n => by simp
  | m :: ns, n => by
    obtain ⟨h1, h2⟩ := minI_spec ns (min n m)
    refine ⟨?_, fun y hy => ?_⟩
    · rw [List.foldl_cons]
      rcases List.mem_cons.1 h1 with h | h
      · rw [h]
        rcases Int.le_total n m with q | q
        · rw [Int.min_eq_left q]; simp
        · rw [Int.min_eq_right q]; simp
      · simp [h]
    · rw [List.foldl_cons]
      rcases List.mem_cons.1 hy with rfl | h
      · exact Int.le_trans (h2 (min y m) (by simp)) (Int.min_le_left y m)
      · rcases List.mem_cons.1 h with rfl | h
        · exact Int.le_trans (h2 (min n y) (by simp)) (Int.min_le_right n y)
        · exact h2 y (by simp [h])
def maxTD : List D → Option D := oneD fun
  | .lst ds => ML.maxD [.lst ds]
  | .tup ds => (intsD ds).bind fun ns => (maxI ns).map .int
  | _ => none
theorem rc_maxT : RzC u (MH.rMaxT u.K) maxTD := rc_one fun x d z G H Q r hz eg k => by
  have key : ∀ (ns : List Int), (maxI ns).map D.int = some z → 0 < ns.length ∧ ∀ m, m ∈ ns → (∀ y, y ∈ ns → y ≤ m) → Q (.int m) H := fun ns h => by
    cases ns with
    | nil => cases h
    | cons n ns =>
      simp only [maxI, Option.map_some] at h
      cases h
      refine ⟨by simp, fun m hm hall => ?_⟩
      have e : m = ns.foldl max n := Int.le_antisymm ((maxI_spec ns n).2 m hm) (hall _ (maxI_spec ns n).1)
      subst e
      exact Kon.ret k eg (rep_int.mpr rfl)
  cases d with
  | lst ds =>
    simp only [ML.maxD, oneD] at hz
    cases hb : intsD ds with
    | none => rw [hb] at hz; cases hz
    | some ns =>
      rw [hb] at hz
      simp only [Option.bind_some] at hz
      obtain ⟨a, vs, rfl, a1, a2⟩ := rep_lst.mp r
      obtain ⟨k1, k2⟩ := key ns hz
      exact ⟨a, ns, rfl, .inl (SqL.of (by rw [← intsD_rep a2 hb]; exact eg _ _ a1)), k1, k2⟩
  | tup ds =>
    simp only at hz
    cases hb : intsD ds with
    | none => rw [hb] at hz; cases hz
    | some ns =>
      rw [hb] at hz
      simp only [Option.bind_some] at hz
      obtain ⟨a, vs, rfl, a1, a2⟩ := rep_tup.mp r
      obtain ⟨k1, k2⟩ := key ns hz
      exact ⟨a, ns, rfl, .inr (by rw [← intsD_rep a2 hb]; exact ex_t eg a1), k1, k2⟩
  | _ => cases hz
def minTD : List D → Option D := fun
  | [.tup ds] => (intsD ds).bind fun ns => (minI ns).map .int
  | xs => minD xs
theorem rc_minT : RzC u (MH.rMinT u.K) minTD := fun xs ds z G H Q r hz eg k => by
  unfold minTD at hz
  split at hz
  · rename_i ds
    right
    obtain ⟨v, rfl, h1⟩ := rep1 r
    obtain ⟨a, vs, rfl, a1, a2⟩ := rep_tup.mp h1
    cases hb : intsD ds with
    | none => rw [hb] at hz; cases hz
    | some ns =>
      rw [hb] at hz
      simp only [Option.bind_some] at hz
      cases ns with
      | nil => cases hz
      | cons n ns =>
        simp only [minI, Option.map_some] at hz
        cases hz
        refine ⟨a, n :: ns, rfl, by rw [← intsD_rep a2 hb]; exact ex_t eg a1, by simp, fun m hm hall => ?_⟩
        have e : m = ns.foldl min n := Int.le_antisymm (hall _ (minI_spec ns n).1) ((minI_spec ns n).2 m hm)
        subst e
        exact Kon.ret k eg (rep_int.mpr rfl)
  · exact .inl (rc_minD _ _ _ _ _ _ r hz eg k)
end
end ML
end
section
set_option Elab.async false
set_option linter.all false
set_option maxRecDepth 100000
set_option autoImplicit false
namespace ML
open PySem PySem.Spec PyProof.Rows L2
section
variable {u : Uv} {W : WX}
def cntD : D → D → Option D
  | .lst ds, .int k => (intsD ds).map fun ns => .int (ns.count k : Nat)
  | _, _ => none
def cntF (f g : Env → Out D) : Env → Out D := fun ε => (f ε).bnd fun d ε1 => match d with
  | .lst ds => (g ε1).bnd fun k ε2 => Out.opt (cntD (.lst ds) k) ε2
  | _ => .bad
end
end ML
end
section
set_option Elab.async false
set_option linter.all false
set_option maxRecDepth 100000
set_option autoImplicit false
namespace ML
open PySem PySem.Spec PyProof.Rows L2
section
variable {u : Uv} {W : WX}
def dget2E (d k z : D) : Option D := match d with
  | .dk ks xs => (toKey k).map fun kk => (valD ks xs kk).getD z
  | .dt ks xs => (toKeys k).map fun kk => (valD ks xs kk).getD z
  | _ => none
def dget2X (d : D) (fk fx : Env → Out D) (ε1 : Env) : Out D := (fk ε1).bnd fun k ε2 => (fx ε2).bnd fun z ε3 => Out.opt (dget2E d k z) ε3
def dget2EF (f fk fx : Env → Out D) : Env → Out D := fun ε => (f ε).bnd fun d ε1 => match d with
  | .dk ks xs => dget2X (.dk ks xs) fk fx ε1
  | .dt ks xs => dget2X (.dt ks xs) fk fx ε1
  | _ => .bad
theorem rz_dget2E {td tk tx : TE} {f fk fx : Env → Out D} (h : RzE u W td f) (hk : RzE u W tk fk) (hx : RzE u W tx fx) : RzE u W (tDGet2 td tk tx) (dget2EF f fk fx) := fun B G0 G H σ ε Q R q => by
  refine h _ _ _ _ _ _ _ R (q.bnd.mono fun d ε1 G1 H1 e1 R1 h1 v rv => ?_)
  cases d with
  | dk ks xs =>
    have rv := rv
    simp only [Rep] at rv
    obtain ⟨a, ws, rfl, c1, c2, c3⟩ := rv
    refine ⟨a, rfl, .inl ⟨_, .inl (R1.gh _ _ c1)⟩, hk _ _ _ _ _ _ _ R1 (h1.bnd.mono fun k ε2 G2 H2 e2 R2 h2 w rw => hx _ _ _ _ _ _ _ R2 (h2.bnd.mono fun z ε3 G3 H3 e3 R3 h3 w2 rw2 => ?_))⟩
    obtain ⟨y, hy, h4⟩ := h3.opt
    cases ek : toKey k with
    | none => simp [dget2E, ek] at hy
    | some kk =>
      simp only [dget2E, ek, Option.map_some, Option.some.injEq] at hy
      have hw := toKey_rep ek rw
      subst hw
      rcases valD_rep (k := kk) c3 c2 with ⟨z1, z2⟩ | ⟨d, v, z1, z2, z3⟩
      · rw [z1] at hy
        subst hy
        refine ⟨_, DGet.k (R3.gh _ _ (e3 _ _ (e2 _ _ c1))), ?_⟩
        rw [z2]
        exact h4.ret R3 _ rw2
      · rw [z1] at hy
        subst hy
        refine ⟨_, DGet.k (R3.gh _ _ (e3 _ _ (e2 _ _ c1))), ?_⟩
        rw [z2]
        exact h4.ret R3 _ ((z3.mono e2).mono e3)
  | dt ks xs =>
    have rv := rv
    simp only [Rep] at rv
    obtain ⟨a, ws, rfl, c1, c2, c3⟩ := rv
    refine ⟨a, rfl, .inr ⟨_, .inl (R1.gh _ _ c1)⟩, hk _ _ _ _ _ _ _ R1 (h1.bnd.mono fun k ε2 G2 H2 e2 R2 h2 w rw => hx _ _ _ _ _ _ _ R2 (h2.bnd.mono fun z ε3 G3 H3 e3 R3 h3 w2 rw2 => ?_))⟩
    obtain ⟨y, hy, h4⟩ := h3.opt
    cases ek : toKeys k with
    | none => simp [dget2E, ek] at hy
    | some kk =>
      simp only [dget2E, ek, Option.map_some, Option.some.injEq] at hy
      obtain ⟨b, hb, eb⟩ := toKeys_rep ek rw
      subst hb
      rcases valD_rep (k := kk) c3 c2 with ⟨z1, z2⟩ | ⟨d, v, z1, z2, z3⟩
      · rw [z1] at hy
        subst hy
        refine ⟨_, DGet.t (R3.gh _ _ (e3 _ _ (e2 _ _ c1))) (R3.gh _ _ (e3 _ _ eb)), ?_⟩
        rw [z2]
        exact h4.ret R3 _ rw2
      · rw [z1] at hy
        subst hy
        refine ⟨_, DGet.t (R3.gh _ _ (e3 _ _ (e2 _ _ c1))) (R3.gh _ _ (e3 _ _ eb)), ?_⟩
        rw [z2]
        exact h4.ret R3 _ ((z3.mono e2).mono e3)
  | _ => exact h1.elim
end
end ML
end
section
set_option Elab.async false
set_option linter.all false
set_option maxRecDepth 100000
set_option maxHeartbeats 2000000
set_option autoImplicit false
namespace ML
open PySem PySem.Spec PyProof.Rows L2
section
variable {P : Program} {w : World} {mg : Str → Option Value} {base : Heap} {x qual : Str} {params : Arguments} {body : List Stmt} {scope : Scope} {f : Addr} {fd : FuncData}
variable {K : PySem.W.Frag} {u : Uv} {W : WX} {b : List Nat} {B G0 G G' H H' : Hp} {σ σ' : L2.St} {ε : Env}
end
end ML
end
section
set_option Elab.async false
set_option linter.all false
set_option maxRecDepth 100000
set_option autoImplicit false
namespace ML
open PySem PySem.Spec PyProof.Rows L2
def kvS (ps : List (Str × Str)) : List (Key × V) := ps.map fun p => (.inr p.1, .str p.2)
def trS (ps : List (Str × Str)) : List (TE × TE) := ps.map fun p => (tC (.str p.1), tC (.str p.2))
def dispSM (ps : List (Str × Str)) : Env → Out Sl := fun ε => .ok (.ow (.dk (ps.map fun p => .inr p.1) (ps.map fun p => .str p.2))) ε
theorem pairs_S {σ : L2.St} : ∀ {ps : List (Str × Str)} {H : Hp} {Q : List (V × V) → Hp → Prop}, Q (ps.map fun p => (V.str p.1, V.str p.2)) H → tPairs (trS ps) σ H Q
  | [], _, _, h => h
  | p :: ps, H, Q, h => by
    show tPairs (trS ps) σ H fun qs H3 => Q ((V.str p.1, V.str p.2) :: qs) H3
    exact pairs_S (ps := ps) h
theorem upd_again {H : Hp} {a : Addr} {x y : HO} : upd (upd H a x) a y = upd H a y := by
  funext b
  by_cases h : b = a
  · subst h; rw [upd_same, upd_same]
  · rw [upd_ne h, upd_ne h, upd_ne h]
section
variable {u : Uv} {W : WX}
theorem repL_strs {G : Hp} : ∀ ps : List (Str × Str), RepL u G (ps.map fun p => D.str p.2) (ps.map fun p => V.str p.2)
  | [] => by simp [RepL]
  | p :: ps => by
    simp only [List.map_cons, RepL]
    exact ⟨_, _, rfl, rep_str.mpr rfl, repL_strs ps⟩
theorem rzm_dispS (ps : List (Str × Str)) (hm : mergeK [] (kvS ps) = kvS ps) (hl : ps.length ≤ 15) : RzM u W (tDisp (trS ps)) (dispSM ps) := fun B G0 G H σ ε Q R q p hp => by
  refine pairs_S ⟨upd_same, kvS ps, ?_, by simpa [kvS] using hl, ?_⟩
  · rw [kvS, List.map_map]; rfl
  · rw [hm, upd_again]
    have ez : kvS ps = (ps.map fun p => (Sum.inr p.1 : Key)).zip (ps.map fun p => V.str p.2) := by
      rw [kvS, List.zip_map']
    rw [ez]
    exact q.ret' (Ex.refl _) (R.lay hp _) _ ⟨p, rfl, (R.free hp).1, (R.free hp).2.1, ⟨ps.map fun p => V.str p.2, upd_same, by simp, repL_strs ps⟩, apart_new R hp⟩
end
end ML
end
section
set_option Elab.async false
set_option linter.all false
set_option maxRecDepth 100000
set_option maxHeartbeats 2000000
set_option autoImplicit false
namespace MH
open PySem PySem.Spec PyProof.Rows L2 LamX
abbrev lamQ (X : Cx) : Str := X.env.qual ++ "<lambda>"
section
variable {X : Cx} {pins : List (Addr × Obj)} {σ : L2.St} {H : Hp} {s : Shared}
end
section
variable {X : Cx} {pins : List (Addr × Obj)} {σ : L2.St} {H : Hp} {s : Shared}
end
end MH
end
section
set_option Elab.async false
set_option linter.all false
set_option maxRecDepth 100000
set_option maxHeartbeats 2000000
set_option autoImplicit false
namespace ML
open PySem PySem.Spec PyProof.Rows L2
section
variable {u : Uv} {t : List Tk} {B G0 G G' H H' J : Hp} {σ : L2.St} {ε : Env}
section
variable {P : Program} {w : World} {K : PySem.W.Frag} {mg : Str → Option Value} {base : Heap} {k n : Nat} {ps : List Str} {L : Addr → Prop}
end
end
section
variable {u : Uv} {W : WX} {B G0 G G' H H' : Hp} {σ : L2.St} {ε : Env}
end
structure TabF (K : PySem.W.Frag) (h : Heap) (p : He.Defn) : Prop where
  hd : PySem.W.codeHdIn K (He.cT K p).1 (He.cT K p).2 = true
  out : K.lookup (He.cT K p).2 = none
  empty : h.get? (He.cT K p).2 = some { cls := .none, data := .fields #[] }
end ML
end
section
set_option Elab.async false
set_option linter.all false
set_option maxRecDepth 100000
set_option autoImplicit false
namespace ML
open PySem PySem.Spec PyProof.Rows L2
section
variable {u : Uv} {W : WX}
end
end ML
namespace ML
open PySem PySem.Spec PyProof.Rows L2
section
variable {X : Cx} {N : List Str} {x a y : Str} {sc : Scope} {g : Addr} {cd : Value} {h0 : ExceptHandler} {hs : List ExceptHandler} {l : List MH.Cla} {q1 q2 q3 q4 q5 q6 q7 q8 q9 : Pos} {kk : Nat}
end
end ML
end
section
set_option Elab.async false
set_option linter.all false
set_option maxRecDepth 100000
set_option maxHeartbeats 2000000
set_option autoImplicit false
namespace MH
open PySem PySem.Spec PyProof.Rows L2 LamX
structure LamI where
  params : Arguments
  body : Expr
  scope : Scope
abbrev lamOb (X : Cx) (l : LamI) (dV doc pm : Value) (cc : Addr) (ctv : Value) : Obj :=
  PySem.W.kdv_obj "<lambda>" (lamQ X) l.params (.expr l.body) l.scope (cloFrom X.env.cells l.scope.names []) dV doc pm cc ctv
def DfAt (l : LamI) (dV : Value) (H : Hp) : Prop :=
  (l.params.defaults = [] ∧ dV = .none) ∨ ∃ T v, dV = .ref T ∧ H T = some (AtO T (PySem.W.kdv_tup [v])) ∧ l.params.defaults ≠ []
def LamAt (X : Cx) (l : LamI) (H : Hp) (f : Addr) : Prop := ∃ (cc : Addr) (dV doc pm ctv : Value),
  H f = some (AtO f (lamOb X l dV doc pm cc ctv)) ∧ H cc = some (CodeO cc (lamQ X)) ∧ DfAt l dV H
def ExX (H J : Hp) : Prop := ∀ a φ, ¬ IsDk a φ → H a = some (.ext φ) → J a = some (.ext φ)
theorem LamAt.up {X : Cx} {l : LamI} {H J : Hp} {f : Addr} (h : LamAt X l H f) (e : ExX H J) : LamAt X l J f := by
  obtain ⟨cc, dV, doc, pm, ctv, h1, h2, h3⟩ := h
  refine ⟨cc, dV, doc, pm, ctv, e _ _ (atO_nodk (fun z => absurd (Value.type.inj z) (by decide))) h1, e _ _ codeO_nodk h2, ?_⟩
  rcases h3 with h3 | ⟨T, v, a, b, c⟩
  · exact .inl h3
  · exact .inr ⟨T, v, a, e _ _ (atO_nodk (fun z => absurd (Value.type.inj z) (by decide))) b, c⟩
structure LamD (N : List Str) (sc scope : Scope) : Prop where
  kind : scope.kind = .function
  co : scope.isCoroutine = false
  gen : scope.isGenerator = false
  own : ∀ y ∈ scope.names, y.2 ≠ .cell
  loc : ∀ y ∈ scope.names, y.2 = .local → y.1 ∉ N
  free : ∀ y ∈ scope.names, y.2 = .free → sc.names.lookup y.1 = some .cell ∨ sc.names.lookup y.1 = some .free
section
variable {X : Cx} {pins : List (Addr × Obj)} {σ : L2.St} {H HZ : Hp} {s s1 : Shared}
def LamB (l : LamI) : Prop := ∀ (q : Str) (cl : List (Str × Addr)) (dV doc pm cv ctv : Value),
  (l.params.defaults = [] → dV = .none → bindArgs (PySem.W.kdv_fn "<lambda>" q l.params (.expr l.body) l.scope cl dV doc pm cv ctv) ⟨[], []⟩ = pure []) ∧
  (l.params.defaults ≠ [] → ∃ x, l.scope.names.lookup x = some .local ∧ ∀ (T : Addr) (v : Value), dV = .ref T → ∃ k, bindArgs (PySem.W.kdv_fn "<lambda>" q l.params (.expr l.body) l.scope cl dV doc pm cv ctv) ⟨[], []⟩ = seqItems? dV >>= k ∧ k (some #[v]) = pure [(x, v)])
structure LamOk (X : Cx) (l : LamI) (k : Nat) (t : XK → TE) : Prop where
  names : LamD X.N X.env.scope l.scope
  bind : LamB l
  body : ∀ (A : Around) (outer : List Env) (s : Shared) (H : Hp) (E : XK) (f cc : Addr), Room k (A.deeper (lamEnv X l.scope s.heap.objs.size f cc)) → PE (lamCx X A outer s H E l.scope f cc) l.body (t E)
end
end MH
end
section
set_option Elab.async false
set_option linter.all false
set_option maxRecDepth 100000
set_option maxHeartbeats 2000000
set_option autoImplicit false
namespace ML
open PySem PySem.Spec PyProof.Rows L2
section
variable {X : Cx} {P : Addr} {u : Uv} {W : WX} {B G0 G G' H H' : Hp} {σ σ' : L2.St} {ε ε' : Env} {i k : Nat} {b : List Nat} {l : MH.LamI} {ls ms : List MH.LamI}

abbrev AtL (X : Cx) (H : Hp) (fs : List Addr) (ls : List MH.LamI) : Prop := fs.length = ls.length ∧ ∀ (j : Nat) (l : MH.LamI), ls[j]? = some l → ∃ f, fs[j]? = some f ∧ MH.LamAt X l H f
theorem AtL.up {fs : List Addr} (h : AtL X H fs ls) (e : MH.ExX H H') : AtL X H' fs ls := ⟨h.1, fun j l q => let ⟨f, a, b⟩ := h.2 j l q; ⟨f, a, b.up e⟩⟩
theorem AtL.nil : AtL X H [] [] := ⟨rfl, fun j l q => by simp at q⟩
theorem AtL.cons {f : Addr} {fs : List Addr} (h : MH.LamAt X l H f) (h2 : AtL X H fs ls) : AtL X H (f :: fs) (l :: ls) := ⟨by simp [h2.1], fun j m q => by
  cases j with
  | zero => simp at q; subst q; exact ⟨f, rfl, h⟩
  | succ j => simpa using h2.2 j m (by simpa using q)⟩
variable {q : Str}
end
section
variable {X : Cx} {P : Addr} {u : Uv} {W : WX} {i k : Nat} {b : List Nat} {l : MH.LamI} {ls ms : List MH.LamI} {q : Str}
end
end ML
namespace ML
open PySem PySem.Spec PyProof.Rows L2
section
variable {X : Cx} {N : List Str} {x a y : Str} {sc : Scope} {g : Addr} {cd : Value} {h0 : ExceptHandler} {hs : List ExceptHandler} {l : List MH.Cla} {q1 q2 q3 q4 q5 q6 q7 q8 q9 : Pos} {kk : Nat}
end
end ML
end
section
set_option Elab.async false
set_option linter.all false
set_option maxRecDepth 100000
set_option maxHeartbeats 2000000
set_option autoImplicit false
namespace ML
open PySem PySem.Spec PyProof.Rows L2
inductive RtX where
  | ret (d d0 : D) | exn (x : Xn) | bad
section
variable {u : Uv} {W : WX} {B G0 G G' H H' : Hp} {σ : L2.St} {ε : Env} {t : List Tk}
end
section
variable {u : Uv} {P : Program} {w : World} {mg : Str → Option Value} {base : Heap} {x qual : Str} {params : Arguments} {body : List Stmt} {scope : Scope} {f : Addr} {fd : FuncData}
end
end ML
end
section
set_option Elab.async false
set_option linter.all false
set_option maxRecDepth 100000
set_option maxHeartbeats 2000000
set_option autoImplicit false
namespace MH
open PySem PySem.Spec PyProof.Rows L2 LamX
section
variable {X : Cx} {pins : List (Addr × Obj)} {σ : L2.St} {H HZ : Hp} {s s1 : Shared}
end
end MH
end
section
set_option Elab.async false
set_option linter.all false
set_option maxRecDepth 100000
set_option maxHeartbeats 2000000
set_option autoImplicit false
namespace ML
open PySem PySem.Spec PyProof.Rows L2
section
variable {P : Program} {w : World} {K : PySem.W.Frag} {mg : Str → Option Value} {base : Heap} {A : Around} {st : List PySem.Env} {N : List Str} {x a y : Str} {sc : Scope} {g : Addr} {cd : Value} {h0 : ExceptHandler} {hs : List ExceptHandler} {l : List MH.Cla} {q1 q2 q3 q4 q5 q6 q7 q8 q9 : Pos} {kk : Nat}
end
section
variable {X : Cx} {P : Addr} {u : Uv} {W : WX} {B G0 G G' H H' : Hp} {σ τ : L2.St} {ε ε' : Env} {i j k : Nat} {b : List Nat} {l : MH.LamI} {ls : List MH.LamI} {q : Str} {m : List Nat} {l0 : List MH.Cla} {ks : List ClaM} {N : List Str}
structure Ln (X : Cx) (G H : Hp) (σ : L2.St) (ε : Env) (p : Addr) (fs : List Addr) (ls : List MH.LamI) : Prop where
  lst : H p = some (.lst (fs.map V.ref))
  g : G p = none
  ap : Apart σ ε p
  at_ : AtL X H fs ls
theorem Ln.off {p D0 : Addr} {fs : List Addr} {o o' : HO} (L : Ln X G H σ ε p fs ls) (hD : H D0 = some o) (n1 : ∀ φ, o ≠ .ext φ) (ne : p ≠ D0) : Ln X G (upd H D0 o') σ ε p fs ls :=
  ⟨by rw [upd_ne ne]; exact L.lst, L.g, L.ap, L.at_.up fun a φ _ z => by rw [upd_ne (fun e => by rw [e, hD] at z; exact n1 φ (Option.some.inj z))]; exact z⟩
end
end ML
end
section
set_option Elab.async false
set_option linter.all false
set_option maxRecDepth 100000
set_option maxHeartbeats 2000000
set_option autoImplicit false
namespace ML
open PySem PySem.Spec PyProof.Rows L2
section
variable {u : Uv} {W : WX} {b : List Nat} {B G0 G G' H H' : Hp} {σ σ' : L2.St} {ε : Env}
end
end ML
end
section
set_option Elab.async false
set_option linter.all false
set_option maxRecDepth 100000
set_option maxHeartbeats 2000000
set_option autoImplicit false
namespace MH
open PySem PySem.Spec PyProof.Rows L2
structure NAt (w : World) (H : Hp) (a : Addr) (o : Obj) (xs : List NRow) : Prop where
  at_ : H a = some (AtO a o)
  sys : (a == sysModules) = false
  ob : NObj w o xs
  ks : ∀ x ∈ xs, KeyG H x.1 (.ref x.2.1)
section
variable {P : Program} {w : World} {K : PySem.W.Frag} {tg : Expr} {a : Addr} {o : Obj} {xs : List NRow} {es : Array DictEntry} {ep : Nat}
end
section
variable {prog : Program} {w : World} {A : Around} {E : Value → Shared → Prop} {s : Shared}
end
end MH
end
section
set_option Elab.async false
set_option linter.all false
set_option maxRecDepth 100000
set_option maxHeartbeats 2000000
set_option autoImplicit false
namespace MH
open PySem L2
end MH
namespace ML
open PySem PySem.Spec PyProof.Rows L2
section
variable {u : Uv} {G H : Hp}
end
section
variable {u : Uv} {W : WX} {b : List Nat} {B G0 G G' H H' : Hp} {σ : L2.St} {ε : Env}
end
end ML
end
section
set_option Elab.async false
set_option linter.all false
set_option maxRecDepth 100000
set_option autoImplicit false
namespace ML
open PySem PySem.Spec PyProof.Rows L2
section
variable {u : Uv} {W : WX}
def truD : D → Option Bool
  | .lst ds => some !ds.isEmpty
  | .tup ds => some !ds.isEmpty
  | .bl b => some b
  | .non => some false
  | _ => none
def testVK : D → Env → Out Bool := fun d ε1 => Out.opt (truD d) ε1
def testVF (f : Env → Out D) : Env → Out Bool := fun ε => (f ε).bnd testVK
end
end ML
end
section
set_option Elab.async false
set_option linter.all false
set_option maxRecDepth 100000
set_option maxHeartbeats 2000000
set_option autoImplicit false
namespace MH
open PySem PySem.Spec PyProof.Rows L2
def fiv : Nat → Nat
  | 0 => 0
  | k + 1 => 5 * fiv k + 1
theorem lcg_fiv (m : Nat) : ∀ k, lcgN m k = fiv k % (m + 1)
  | 0 => (Nat.zero_mod _).symm
  | k + 1 => by
    show (lcgN m k * 5 + 1) % (m + 1) = (5 * fiv k + 1) % (m + 1)
    rw [lcg_fiv m k, Nat.add_mod, Nat.mul_mod, Nat.mod_mod, ← Nat.mul_mod, ← Nat.add_mod, Nat.mul_comm]
theorem five_pow : ∀ n, 5 ^ n = 4 * fiv n + 1
  | 0 => rfl
  | n + 1 => by rw [Nat.pow_succ, five_pow n, fiv]; omega
theorem fiv_plus (d : Nat) : ∀ i, fiv (i + d) = 5 ^ i * fiv d + fiv i
  | 0 => by simp [fiv]
  | i + 1 => by
    have e : i + 1 + d = (i + d) + 1 := by omega
    rw [e, fiv, fiv_plus d i, Nat.pow_succ, fiv, Nat.mul_add, ← Nat.mul_assoc, Nat.mul_comm 5 (5 ^ i)]
    omega
theorem fiv_two (n : Nat) : fiv (2 * n) = 2 * (fiv n * (2 * fiv n + 1)) := by
  rw [Nat.two_mul, fiv_plus, five_pow]
  have : fiv n * (2 * fiv n + 1) = 2 * (fiv n * fiv n) + fiv n := by
    rw [Nat.mul_add, Nat.mul_one, Nat.mul_left_comm]
  rw [this, Nat.add_mul, Nat.one_mul, Nat.mul_assoc]
  omega
theorem fiv_odd : ∀ n, fiv n % 2 = n % 2
  | 0 => rfl
  | n + 1 => by have := fiv_odd n; rw [fiv]; omega
theorem odd_cop (k x : Nat) : Nat.Coprime (2 ^ k) (2 * x + 1) := by
  refine Nat.Coprime.pow_left k ?_
  have h1 := Nat.gcd_dvd_left 2 (2 * x + 1)
  have h2 := Nat.gcd_dvd_right 2 (2 * x + 1)
  have h3 : Nat.gcd 2 (2 * x + 1) ∣ 1 := by
    have := Nat.dvd_sub h2 (Nat.dvd_trans h1 (Nat.dvd_mul_right 2 x))
    rwa [Nat.add_sub_cancel_left] at this
  exact Nat.dvd_one.1 h3
theorem fiv_dvd : ∀ k n, 2 ^ k ∣ fiv n → 2 ^ k ∣ n
  | 0, n, _ => by rw [Nat.pow_zero]; exact Nat.one_dvd n
  | k + 1, n, h => by
    have h2 : 2 ∣ fiv n := Nat.dvd_trans ⟨2 ^ k, by rw [Nat.pow_succ, Nat.mul_comm]⟩ h
    have hp := fiv_odd n
    obtain ⟨m, rfl⟩ : ∃ m, n = 2 * m := ⟨n / 2, by omega⟩
    rw [fiv_two, Nat.pow_succ, Nat.mul_comm (2 ^ k)] at h
    have h3 := Nat.dvd_of_mul_dvd_mul_left (by omega) h
    have h4 := fiv_dvd k m ((odd_cop k (fiv m)).dvd_of_dvd_mul_right h3)
    rw [Nat.pow_succ, Nat.mul_comm (2 ^ k)]
    exact Nat.mul_dvd_mul_left 2 h4
theorem fiv_full : ∀ k, 2 ^ k ∣ fiv (2 ^ k)
  | 0 => Nat.one_dvd _
  | k + 1 => by
    rw [Nat.pow_succ, Nat.mul_comm (2 ^ k), fiv_two]
    exact Nat.mul_dvd_mul_left 2 (Nat.dvd_trans (fiv_full k) (Nat.dvd_mul_right _ _))
theorem fiv_inj {k i j : Nat} (hj : j < 2 ^ k) (hij : i ≤ j) (h : fiv i % 2 ^ k = fiv j % 2 ^ k) : i = j := by
  obtain ⟨d, rfl⟩ : ∃ d, j = i + d := ⟨j - i, by omega⟩
  have h1 : 2 ^ k ∣ 5 ^ i * fiv d := by
    have h2 : 2 ^ k ∣ fiv (i + d) - fiv i := Nat.dvd_of_mod_eq_zero (Nat.sub_mod_eq_zero_of_mod_eq h.symm)
    rwa [fiv_plus, Nat.add_sub_cancel] at h2
  have h3 : Nat.Coprime (2 ^ k) (5 ^ i) := by
    rw [five_pow, show 4 * fiv i + 1 = 2 * (2 * fiv i) + 1 by omega]
    exact odd_cop k _
  have h4 := fiv_dvd k d (h3.dvd_of_dvd_mul_left h1)
  have h5 := Nat.eq_zero_of_dvd_of_lt h4 (by omega)
  omega
def MK (m : Nat) : Prop := m = 7 ∨ m = 31 ∨ m = 127 ∨ m = 511 ∨ m = 2047 ∨ m = 8191
theorem MK.pow {m : Nat} (h : MK m) : ∃ k, m + 1 = 2 ^ k := by
  rcases h with rfl | rfl | rfl | rfl | rfl | rfl
  · exact ⟨3, rfl⟩
  · exact ⟨5, rfl⟩
  · exact ⟨7, rfl⟩
  · exact ⟨9, rfl⟩
  · exact ⟨11, rfl⟩
  · exact ⟨13, rfl⟩
theorem MK.lcg {m : Nat} (h : MK m) {j : Nat} (hj : j ≤ m) : ∃ b, b ≤ m ∧ lcgN m b = j := by
  obtain ⟨k, e⟩ := h.pow
  rcases Classical.em (∃ b, b ≤ m ∧ lcgN m b = j) with q | q
  · exact q
  exfalso
  have nd : ((List.range (m + 1)).map fun i => fiv i % 2 ^ k).Nodup := by
    refine List.pairwise_map.2 (List.Pairwise.imp_of_mem (fun {a b} ha hb hne hab => hne ?_) (List.nodup_range (n := m + 1)))
    have h1 := List.mem_range.1 ha
    have h2 := List.mem_range.1 hb
    rcases Nat.le_total a b with c | c
    · exact fiv_inj (by omega) c hab
    · exact (fiv_inj (by omega) c hab.symm).symm
  have nj : j ∉ (List.range (m + 1)).map fun i => fiv i % 2 ^ k := fun hm => by
    obtain ⟨b, hb, eb⟩ := List.mem_map.1 hm
    have := List.mem_range.1 hb
    exact q ⟨b, by omega, by rw [lcg_fiv, e]; exact eb⟩
  have := nat_nodup_len _ (List.range (m + 1)) (List.nodup_cons.2 ⟨nj, nd⟩) fun x hx => by
    rcases List.mem_cons.1 hx with rfl | hx
    · exact List.mem_range.2 (by omega)
    · obtain ⟨b, -, rfl⟩ := List.mem_map.1 hx
      rw [e]
      exact List.mem_range.2 (Nat.mod_lt _ (Nat.pow_pos (by omega)))
  rw [List.length_cons, List.length_map, List.length_range] at this
  omega
theorem MK.again {m : Nat} (h : MK m) : ∀ k, lcgN m (m + 1 + k) = lcgN m k
  | 0 => by
    obtain ⟨k, e⟩ := h.pow
    show lcgN m (m + 1) = 0
    rw [lcg_fiv, e]
    exact Nat.mod_eq_zero_of_dvd (fiv_full k)
  | k + 1 => by
    show (lcgN m (m + 1 + k) * 5 + 1) % (m + 1) = (lcgN m k * 5 + 1) % (m + 1)
    rw [MK.again h k]
theorem MK.runs {m : Nat} (h : MK m) (x : Int) {j : Nat} (hj : j ≤ m) : ∃ n, n ≤ m + 12 ∧ runI m (SetTable.bits x) n = j := by
  obtain ⟨a, a1, a2⟩ := h.lcg (runI_le m (SetTable.bits x) 12)
  obtain ⟨b, b1, b2⟩ := h.lcg hj
  by_cases c : a ≤ b
  · refine ⟨12 + (b - a), by omega, ?_⟩
    rw [runI_tail (bits_lt x), ← a2, lcgN_add, Nat.add_sub_cancel' c, b2]
  · refine ⟨12 + (m + 1 + b - a), by omega, ?_⟩
    rw [runI_tail (bits_lt x), ← a2, lcgN_add, show a + (m + 1 + b - a) = m + 1 + b by omega, h.again, b2]
theorem MK.meets {m : Nat} (h : MK m) (x : Int) {j : Nat} (hj : j ≤ m) : ∃ k, k < 10 * SetTable.turns m ∧ way m x k = j := by
  obtain ⟨n, n1, n2⟩ := h.runs x hj
  obtain ⟨k, k1, k2⟩ := run_nth m (SetTable.bits x) n
  exact ⟨k, by unfold SetTable.turns; omega, by show (nth m _ k).j = j; rw [k2]; exact n2⟩
theorem way_in (m : Nat) (x : Int) (k : Nat) : way m x k ≤ m := by
  have h1 : SetTable.bits x % (m + 1) ≤ m := Nat.le_of_lt_succ (Nat.mod_lt _ (Nat.succ_pos _))
  have h2 := runEnd_bd h1
  have h3 := nth_in (m := m) k (runAt m (SetTable.bits x % (m + 1)) (SetTable.bits x)) (by
    show SetTable.bits x % (m + 1) + (SetTable.runEnd m (SetTable.bits x % (m + 1)) - SetTable.bits x % (m + 1)) ≤ m
    omega)
  show (nth m _ k).j ≤ m
  omega
structure TbN (t : SetTable) (hs : List Int) : Prop where
  up : Ris t.place.toList
  nod : t.dummies = #[]
  num : t.place.size = hs.length
  mok : MK t.mask
  low : ∀ x ∈ t.place.toList, x ≤ t.mask
  found : ∀ (i : Nat) (x : Int) (j : Nat), hs[i]? = some x → t.place.toList[i]? = some j → ∃ k, way t.mask x k = j ∧ ∀ q < k, way t.mask x q ∈ t.place.toList
section
variable {t : SetTable} {hs : List Int}
theorem TbN.free (T : TbN t hs) (hl : hs.length ≤ t.mask) (x : Int) : ∃ k, k < 10 * SetTable.turns t.mask ∧ way t.mask x k ∉ t.place.toList ∧ ∀ q < k, way t.mask x q ∈ t.place.toList := by
  obtain ⟨j, j1, j2⟩ := st_missing t.place.toList (t.mask + 1) (by rw [Array.length_toList, T.num]; omega)
  obtain ⟨k0, k1, k2⟩ := T.mok.meets x (Nat.le_of_lt_succ j1)
  obtain ⟨k, h1, h2, h3⟩ := st_least (p := fun q => way t.mask x q ∉ t.place.toList) k0 (by rw [k2]; exact j2)
  exact ⟨k, by omega, h2, fun q hq => Classical.byContradiction fun c => h3 q hq c⟩
theorem TbN.ins (T : TbN t hs) {x : Int} {k : Nat} (hk : way t.mask x k ∉ t.place.toList) (hq : ∀ q < k, way t.mask x q ∈ t.place.toList) :
    SetTable.below t.place (way t.mask x k) ≤ hs.length ∧ TbN (t.put (way t.mask x k)).1 (hs.take (SetTable.below t.place (way t.mask x k)) ++ x :: hs.drop (SetTable.below t.place (way t.mask x k))) ∧
    (t.put (way t.mask x k)).1.fill = hs.length + 1 := by
  have jm := way_in t.mask x k
  obtain ⟨j, ej⟩ : ∃ j, way t.mask x k = j := ⟨_, rfl⟩
  rw [ej] at hk jm ⊢
  have pl := put_place t j
  obtain ⟨c1, -, -⟩ := below_cut T.up j
  have np : t.place[SetTable.below t.place j]? ≠ some j := fun e => hk (List.mem_of_getElem? (Array.getElem?_toList ▸ e))
  have dm := put_dm T.nod j
  have l1 : t.place.toList.length = hs.length := by rw [Array.length_toList]; exact T.num
  have le1 : SetTable.below t.place j ≤ t.place.toList.length := by rw [Array.length_toList]; exact c1
  have le2 : SetTable.below t.place j ≤ hs.length := by rw [← T.num]; exact c1
  have sz : (t.put j).1.place.size = hs.length + 1 := by rw [← Array.length_toList, pl, len_ins _ le1, l1]
  have more : ∀ {y : Nat}, y ∈ t.place.toList → y ∈ (t.put j).1.place.toList := fun hy => by rw [pl]; exact mem_ins.2 (.inr hy)
  refine ⟨le2, ⟨ris_insert T.up np, dm, by rw [len_ins _ le2]; exact sz, T.mok, fun y hy => ?_, fun i y z h1 h2 => ?_⟩, ?_⟩
  · rw [pl] at hy
    rcases mem_ins.1 hy with rfl | hy
    · exact jm
    · exact T.low y hy
  · rw [tins_get _ le2] at h1
    rw [pl, tins_get _ le1] at h2
    show ∃ k, way t.mask y k = z ∧ ∀ q < k, way t.mask y q ∈ (t.put j).1.place.toList
    split at h1
    · rename_i c
      rw [if_pos c] at h2
      obtain ⟨k', e, w⟩ := T.found i y z h1 h2
      exact ⟨k', e, fun q hq' => more (w q hq')⟩
    · rename_i c
      rw [if_neg c] at h2
      split at h1
      · rename_i d
        rw [if_pos d] at h2
        cases h1; cases h2
        exact ⟨k, ej, fun q hq' => more (hq q hq')⟩
      · rename_i d
        rw [if_neg d] at h2
        obtain ⟨k', e, w⟩ := T.found (i - 1) y z h1 h2
        exact ⟨k', e, fun q hq' => more (w q hq')⟩
  · show (t.put j).1.place.size + (t.put j).1.dummies.size = _
    rw [sz, dm]; rfl
end
theorem MK.seat {m : Nat} (h : MK m) (ow : Array (Option Nat)) (x : Int) {j : Nat} (hj : j ≤ m) (hf : oAt ow j = none) :
    ∃ k, SetTable.layClean.free m ow (SetTable.turns m) (SetTable.bits x % (m + 1)) (SetTable.bits x) = some (way m x k) ∧ oAt ow (way m x k) = none ∧ ∀ q < k, oAt ow (way m x q) ≠ none := by
  obtain ⟨n, n1, n2⟩ := h.runs x hj
  have e0 : way m x (off m (SetTable.bits x % (m + 1)) (SetTable.bits x) n) = j := by
    show (nth m (runAt m _ _) _).j = j
    rw [nth_off, itL_run]; exact n2
  obtain ⟨k, k1, k2, k3⟩ := st_least (p := fun q => oAt ow (way m x q) = none) _ (e0.symm ▸ hf)
  refine ⟨k, free_spec m ow (SetTable.turns m) n _ _ k (by unfold SetTable.turns; omega) k1 (fun q hq => ?_) (Option.isNone_iff_eq_none.2 k2), k2, k3⟩
  have := k3 q hq
  exact Bool.eq_false_iff.2 fun e => this (Option.isNone_iff_eq_none.1 e)
theorem MK.next {m : Nat} (hm : MK m) {done : List Int} {ow : Array (Option Nat)} (W : Own m done ow) (hl : done.length ≤ m) (x : Int) :
    ∃ j, SetTable.layClean.free m ow (SetTable.turns m) (SetTable.bits x % (m + 1)) (SetTable.bits x) = some j ∧ Own m (done ++ [x]) (ow.setIfInBounds j (some done.length)) := by
  obtain ⟨ps, p1, p2⟩ := W.ps
  obtain ⟨j0, a1, a2⟩ := st_missing ps (m + 1) (by omega)
  have f0 : oAt ow j0 = none := Classical.byContradiction fun c => a2 (p2 j0 (by omega) c)
  obtain ⟨k, k1, k2, k3⟩ := hm.seat ow x (Nat.le_of_lt_succ a1) f0
  have wl := way_in m x k
  obtain ⟨j, ej⟩ : ∃ j, way m x k = j := ⟨_, rfl⟩
  rw [ej] at k1 k2 wl
  have me := oAt_set_self (owner := ow) (some done.length) (j := j) (by rw [W.sz]; omega)
  have stay : ∀ {i : Nat}, oAt ow i ≠ none → oAt (ow.setIfInBounds j (some done.length)) i ≠ none := fun {i} hi => by
    by_cases c : i = j
    · subst c; rw [me]; simp
    · rwa [oAt_set_ne _ c]
  refine ⟨j, k1, by rw [Array.size_setIfInBounds, W.sz], fun i q hi e => ?_, fun q hq => ?_, j :: ps, by simp [p1], fun i hi e => ?_⟩
  · by_cases c : i = j
    · subst c
      rw [me] at e
      cases e
      exact ⟨x, k, by simp, ej, fun q hq => stay (k3 q hq)⟩
    · rw [oAt_set_ne _ c] at e
      obtain ⟨y, r, b1, b2, b3⟩ := W.at_ i q hi e
      exact ⟨y, r, by rw [List.getElem?_append_left (List.getElem?_eq_some_iff.1 b1).1]; exact b1, b2, fun q' hq' => stay (b3 q' hq')⟩
  · rw [List.length_append, List.length_singleton] at hq
    by_cases c : q < done.length
    · obtain ⟨i, b1, b2⟩ := W.all q c
      exact ⟨i, b1, by rw [oAt_set_ne _ (fun e => by rw [e, k2] at b2; cases b2)]; exact b2⟩
    · have : q = done.length := by omega
      subst this
      exact ⟨j, wl, me⟩
  · by_cases c : i = j
    · rw [c]; exact List.mem_cons_self
    · rw [oAt_set_ne _ c] at e
      exact List.mem_cons_of_mem _ (p2 i hi e)
end MH
namespace MH
open PySem PySem.Spec PyProof.Rows L2
def IsN (h : Heap) (k : NestedKey) (b : Addr) : Prop := NestedIs h k (.ref b) ∧ k.depth ≤ 8
section
variable {P : Program} {w : World} {A : Around} {E : Value → Shared → Prop} {s : Shared}
theorem IsN.past {h h' : Heap} {k : NestedKey} {a b : Addr} {o : Obj} {es : Array (Int × Value)} {ep : Nat} {t : SetTable} (x : IsN h k b) (ho : h.get? a = some o) (hd : o.data = .set es ep t) (hs : Heap.SameBut a h h') : IsN h' k b :=
  ⟨NestedIs.at (fun c u vs n e hu => (hs.2 c fun q => by subst q; rw [ho] at e; cases e; rw [hd] at hu; cases hu).trans e) k _ x.1, x.2⟩
abbrev KRow := Addr × NestedKey
def hsN (w : World) (L : List KRow) : List Int := L.map fun p => p.2.hash w
def esN (w : World) (L : List KRow) : List (Int × Value) := L.map fun p => (p.2.hash w, Value.ref p.1)
structure SetN (w : World) (h : Heap) (a : Addr) (L : List KRow) (es : Array (Int × Value)) (ep : Nat) (t : SetTable) : Prop where
  ob : ∃ o, h.get? a = some o ∧ o.ExactSet ∧ o.data = .set es ep t
  rows : es.toList = esN w L
  tab : TbN t (hsN w L)
  once : (L.map (·.2)).Nodup
  mem : ∀ p ∈ L, IsN h p.2 p.1
  led : w.params.followText "set-order" = true ∨ t.led = true
  room : L.length * 5 < t.mask * 3
  few : L.length < 4000
variable {a : Addr} {L : List KRow} {es : Array (Int × Value)} {ep : Nat} {t : SetTable}
theorem es_size (h : es.toList = esN w L) : es.size = L.length := by rw [← Array.length_toList, h]; simp [esN]
theorem SetN.fits (R : SetN w s.heap a L es ep t) : t.fits es.size = true := by
  have h1 := R.tab.num
  have h2 := es_size R.rows
  have h3 := R.room
  simp only [hsN, List.length_map] at h1
  unfold SetTable.fits SetTable.fill
  rw [R.tab.nod]
  simp only [Bool.and_eq_true, beq_iff_eq, decide_eq_true_eq]
  show t.place.size = es.size ∧ t.place.size + 0 ≤ t.mask
  omega
theorem SetN.at_ (R : SetN w s.heap a L es ep t) {i : Nat} {p : KRow} (h : L[i]? = some p) : es[i]? = some (p.2.hash w, Value.ref p.1) := by
  rw [← Array.getElem?_toList, R.rows, esN, List.getElem?_map, h]; rfl
end
end MH
namespace MH
open PySem PySem.Spec PyProof.Rows L2
open PySem.W (EachIs AllAlike dataLe)
structure GotN (ks : List KRow) (i : Nat) (L : List KRow) : Prop where
  sub : ∀ p ∈ L, p ∈ ks.take i
  all : ∀ p ∈ ks.take i, p.2 ∈ L.map (·.2)
  len : L.length ≤ i
theorem take_one {α : Type} {l : List α} {i : Nat} {x : α} (h : l[i]? = some x) : l.take (i + 1) = l.take i ++ [x] := by rw [List.take_add_one, h]; rfl
theorem GotN.next {ks L L' : List KRow} {i : Nat} {x : KRow} (g : GotN ks i L) (h : ks[i]? = some x) (h1 : x.2 ∈ L.map (·.2) → L' = L) (h2 : x.2 ∉ L.map (·.2) → L'.Perm (x :: L)) : GotN ks (i + 1) L' := by
  have e := take_one h
  by_cases hm : x.2 ∈ L.map (·.2)
  · rw [h1 hm]
    refine ⟨fun p hp => by rw [e]; exact List.mem_append_left _ (g.sub p hp), fun p hp => ?_, Nat.le_succ_of_le g.len⟩
    rw [e] at hp
    rcases List.mem_append.1 hp with z | z
    · exact g.all p z
    · rw [List.mem_singleton.1 z]; exact hm
  · have pm := h2 hm
    refine ⟨fun p hp => ?_, fun p hp => ?_, by rw [pm.length_eq, List.length_cons]; exact Nat.succ_le_succ g.len⟩
    · rw [e]
      rcases List.mem_cons.1 (pm.mem_iff.1 hp) with rfl | z
      · simp
      · exact List.mem_append_left _ (g.sub p z)
    · rw [(pm.map (·.2)).mem_iff, List.map_cons]
      rw [e] at hp
      rcases List.mem_append.1 hp with z | z
      · exact List.mem_cons_of_mem _ (g.all p z)
      · rw [List.mem_singleton.1 z]; exact List.mem_cons_self
section
variable {P : Program} {w : World} {A : Around} {E : Value → Shared → Prop} {s : Shared}
end
section
variable {X : Cx}
end
end MH
namespace MH
open PySem L2
end MH
namespace ML
open PySem PySem.Spec PyProof.Rows L2
open PySem.W (dataLe AllAlike)
section
variable {u : Uv} {W : WX} {G H : Hp}
end
end ML
end
section
set_option Elab.async false
set_option linter.all false
set_option maxRecDepth 100000
set_option maxHeartbeats 2000000
set_option autoImplicit false
namespace MH
open PySem PySem.Spec PyProof.Rows L2
abbrev PRow := Addr × NestedKey × Addr × V
end MH
namespace ML
open PySem PySem.Spec PyProof.Rows L2
section
variable {u : Uv} {W : WX} {G H : Hp}
inductive PrnR (u : Uv) (G : Hp) : List (NestedKey × D) → List MH.PRow → Prop
  | nil : PrnR u G [] []
  | cons {k : NestedKey} {d : D} {a b : Addr} {v : V} {ps : List (NestedKey × D)} {ts : List MH.PRow} : G a = some (.tup [.ref b, v]) → MH.KeyG G k (.ref b) → k.depth ≤ 8 → Rep u G d v → PrnR u G ps ts → PrnR u G ((k, d) :: ps) ((a, k, b, v) :: ts)
theorem PrnR.mem {ps : List (NestedKey × D)} {ts : List MH.PRow} (h : PrnR u G ps ts) : ∀ p ∈ ts, G p.1 = some (.tup [.ref p.2.2.1, p.2.2.2]) ∧ MH.KeyG G p.2.1 (.ref p.2.2.1) ∧ p.2.1.depth ≤ 8 := by
  induction h with
  | nil => intro p hp; cases hp
  | cons h1 h2 h3 h4 _ ih =>
    intro p hp
    rcases List.mem_cons.1 hp with rfl | hp
    · exact ⟨h1, h2, h3⟩
    · exact ih p hp
end
end ML
end
section
set_option Elab.async false
set_option linter.all false
set_option maxRecDepth 100000
set_option maxHeartbeats 2000000
set_option autoImplicit false
namespace MH
open PySem PySem.Spec PyProof.Rows L2
abbrev mroVE : List Value := [.type "ValueError", .type "Exception", .type "BaseException", .type "object"]
theorem pmk_own0 {X : Cx} {C : Addr} {x : Str} {p pos : Pos} (q : PySem.W.excIn X.K C mroVE "ValueError.__new__" = true) (gC : X.mg x = some (.ref C))
    (kC : PySem.W.keepIn X.K (.ref C) = true) (r : Raises X (.ref C)) (hg : Gl X x) (hdb : (x == ("__debug__" : Str)) = false := by decide) :
    PMk X (.Call (.Name x p) [] [] pos) (fun _ H Q => Q (.ref C) none H) := by
  intro pins s σ H Q I h
  refine wpAny_Call_Name_kw (ld_glob I hg gC ?_ hdb)
  refine PySem.W.callWith_K0 I.kIn kC ?_
  show wpAny _ _ (call (.ref C) []) _ _ _
  obtain ⟨bm, N, nm, qn, bs, hdct, sn, sub, ab, col, dd, k0, k1, k2, k3, k5, mN, hC, hN, hni, T⟩ := exc_obj I.kIn q
  refine wpAny_call_exc_subT F.excBase_ValueError T hC hN hni (fun h' e hm => ?_) (by show 0 ≤ sizeLine; omega)
  exact mk_of I hm r h (I.hok.gone hm.new)
end MH
namespace ML
open PySem PySem.Spec PyProof.Rows L2
section
variable {X : Cx} {x : Str} {p pos pos' : Pos} {W : WX}
def exc0B (K : PySem.W.Frag) (x : Str) : Bool := PySem.W.excIn K (He.ga K x) MH.mroVE "ValueError.__new__"
theorem ps_raise00 (tk : Takes X W) (E : ErrC X.K X.mg x) (h0 : exc0B X.K x = true) (hc : X.calm = true) (hg : Gl X x) (hdb : (x == ("__debug__" : Str)) = false := by decide) :
    PS X (.Raise (some (.Call (.Name x p) [] [] pos)) none pos') (fun _ σ H => W (.ref (He.ga X.K x)) none σ H) :=
  ps_raise hc tk (MH.pmk_own0 h0 E.gl E.ox.kC (raises_own E.ox.exC E.ox.tyC) hg hdb)
end
end ML
end
section
set_option Elab.async false
set_option linter.all false
set_option maxRecDepth 100000
set_option maxHeartbeats 2000000
set_option autoImplicit false
namespace ML
open PySem PySem.Spec PyProof.Rows L2
section
variable {u : Uv} {W : WX} {b : List Nat} {B G0 G G' H H' : Hp} {σ σ' : L2.St} {ε : Env}
theorem NestO.lay {D0 p : Addr} {o : HO} {ms : List Addr} {rs : List (List D)} (n : NestO u B G H σ ε D0 ms rs) (hp : p ∉ D0 :: ms) : NestO u B G (upd H p o) σ ε D0 ms rs :=
  ⟨n.nd, n.gn, n.bn, n.ap, by rw [upd_ne (fun z => hp (by rw [← z]; simp))]; exact n.hd, n.ne.mono (Ex.refl _) fun m hm o' q => by rw [upd_ne (fun z => hp (by rw [← z]; simp [hm]))]; exact q⟩
end
end ML
end
section
set_option Elab.async false
set_option linter.all false
set_option maxRecDepth 100000
set_option maxHeartbeats 2000000
set_option autoImplicit false
namespace MH
open PySem PySem.Spec PyProof.Rows L2
structure MAt (w : World) (H : Hp) (a : Addr) (xs : List NRow) : Prop where
  at_ : H a = some (MemO w a xs)
  sys : (a == sysModules) = false
  ks : ∀ x ∈ xs, KeyG H x.1 (.ref x.2.1)
end MH
namespace ML
open PySem PySem.Spec PyProof.Rows L2
def ghD : D → List NestedKey
  | .mo _ _ _ gh => gh
  | _ => []
def Uv.wm (u : Uv) (a m : Addr) (self : D) (val : D → NestedKey → D) : Uv := { u with mo := some (a, m, self), tb := [⟨m, "", some fun k d => d = val self k ∧ k ∈ ghD self⟩] }
section
variable {u0 : Uv} {a m : Addr} {self : D} {val : D → NestedKey → D} {W : WX} {b : List Nat} {B G0 G G' H H' : Hp} {σ σ' : L2.St} {ε : Env}
theorem RepE.mem (R : RepE (u0.wm a m self val) B G0 G H σ ε) : MemT (u0.wm a m self val) G H m (fun k d => d = val self k ∧ k ∈ ghD self) ∧ G m = none ∧ B m = none :=
  R.tb ⟨m, "", some fun k d => d = val self k ∧ k ∈ ghD self⟩ (by simp [Uv.wm])
end
section
variable {u0 : Uv} {a m : Addr} {self : D} {val : D → NestedKey → D} {W : WX} {b : List Nat} {B G0 G G' H H' : Hp} {σ σ' : L2.St} {ε : Env}
end

section
variable {u0 : Uv} {val : D → NestedKey → D} {P : Program} {w : World} {mg : Str → Option Value} {base : Heap} {x qual : Str} {params : Arguments} {body : List Stmt} {scope : Scope} {f : Addr} {fd : FuncData}
end
section
variable {u0 : Uv} {a m : Addr} {self : D} {val : D → NestedKey → D} {W : WX} {b : List Nat} {B G0 G G' H H' : Hp} {σ σ' : L2.St} {ε : Env}
end
section
variable {u0 : Uv} {mo : Option (Addr × Addr × D)} {t : List Tk} {W : WX} {b : List Nat} {B G0 G G' H H' : Hp} {σ σ' : L2.St} {ε : Env}
end
section
variable {u0 : Uv} {P : Program} {w : World} {mg : Str → Option Value} {base : Heap} {x qual : Str} {params : Arguments} {body : List Stmt} {scope : Scope} {f : Addr} {fd : FuncData}
end
section
variable {u0 : Uv} {mo mo' : Option (Addr × Addr × D)} {t t' : List Tk} {W : WX} {b : List Nat} {B G0 G G' H H' : Hp} {σ σ' : L2.St} {ε : Env}
end
end ML
end
section
set_option Elab.async false
set_option linter.all false
set_option maxRecDepth 100000
set_option maxHeartbeats 2000000
set_option autoImplicit false
namespace ML
open PySem PySem.Spec PyProof.Rows L2
section
variable {u : Uv} {W : WX} {b : List Nat} {B G0 G G' H H' : Hp} {σ σ' : L2.St} {ε : Env}
end
end ML
end
section
set_option Elab.async false
set_option linter.all false
set_option maxRecDepth 100000
set_option maxHeartbeats 2000000
set_option autoImplicit false
namespace ML
open PySem PySem.Spec PyProof.Rows L2
section
variable {P : Program} {w : World} {mg : Str → Option Value} {base : Heap} {x qual : Str} {params : Arguments} {body : List Stmt} {scope : Scope} {f : Addr} {fd : FuncData}
variable {K : PySem.W.Frag} {u : Uv} {W : WX} {b : List Nat} {B G0 G G' H H' : Hp} {σ σ' : L2.St} {ε : Env}
inductive RtY
  | ret (d d0 d1 : D)
  | bad
end
end ML
end
section
set_option Elab.async false
set_option linter.all false
set_option maxRecDepth 100000
set_option maxHeartbeats 2000000
set_option autoImplicit false
namespace MH
open PySem PySem.Spec PyProof.Rows L2
def keyS (e : Int × Value) : Str := match e.2 with
  | .str z _ => z
  | _ => Str.empty
def GoodS (P : Program) (w : World) (e : Int × Value) : Prop := ∃ z tk, e.2 = Value.str z tk ∧ e.1 = (PySem.strKind P w).hash z
def StrR (P : Program) (w : World) (h : Heap) (a : Addr) (M : Str → Bool) (n : Nat) : Prop :=
  ∃ o es ep t, h.get? a = some o ∧ o.ExactSet ∧ o.data = .set es ep t ∧ (∀ e ∈ es.toList, GoodS P w e) ∧ (es.toList.map keyS).Nodup ∧ (∀ z, M z = true ↔ z ∈ es.toList.map keyS) ∧
    es.size < scanBound ∧ t.fits es.size = true ∧ es.size = n ∧ Ris t.place.toList ∧ (w.params.followText "set-order" = true ∨ t.led = true)
section
variable {P : Program} {w : World} {h h' : Heap} {a : Addr} {M : Str → Bool} {n : Nat}
theorem StrR.at (R : StrR P w h a M n) (k : ∀ o, h.get? a = some o → h'.get? a = some o) : StrR P w h' a M n := by
  obtain ⟨o, es, ep, t, ho, r⟩ := R
  exact ⟨o, es, ep, t, k o ho, r⟩
theorem StrR.congr {M' : Str → Bool} (R : StrR P w h a M n) (e : ∀ z, M' z = M z) : StrR P w h a M' n := by
  have q : M' = M := funext e
  rw [q]; exact R
end
section
variable {P : Program} {w : World} {A : Around} {E : Value → Shared → Prop} {s : Shared} {a : Addr} {M : Str → Bool} {n : Nat}
end
section
variable {X : Cx}
end
end MH
end
section
set_option Elab.async false
set_option linter.all false
set_option maxRecDepth 100000
set_option maxHeartbeats 2000000
set_option autoImplicit false
namespace ML
open PySem PySem.Spec PyProof.Rows L2
section
variable {u : Uv} {W : WX} {G H : Hp}
end
end ML
end
section
set_option Elab.async false
set_option linter.all false
set_option maxRecDepth 100000
set_option maxHeartbeats 2000000
set_option autoImplicit false
namespace MH
open PySem PySem.Spec PyProof.Rows L2
section
variable {X : Cx} {pins : List (Addr × Obj)} {σ : L2.St} {H : Hp} {s : Shared}
section
variable {kx vx tg iter : Expr} {ifs : List Expr} {scope : Scope} {own : List (Str × Nat)} {wi : TI} {g : TG} {tt : TT} {tk tv : TE}
end
end
end MH
end
section
set_option Elab.async false
set_option linter.all false
set_option maxRecDepth 100000
set_option maxHeartbeats 2000000
set_option autoImplicit false
namespace MH
open PySem PySem.Spec PyProof.Rows L2
end MH
namespace ML
open PySem PySem.Spec PyProof.Rows L2
section
variable {u : Uv} {W : WX} {b : List Nat} {B G0 G G' H H' : Hp} {σ σ' : L2.St} {ε : Env}
end
end ML
end
section
set_option Elab.async false
set_option linter.all false
set_option maxRecDepth 100000
set_option maxHeartbeats 2000000
set_option autoImplicit false
namespace MH
open PySem PySem.Spec PyProof.Rows L2
section
variable {P : Program} {w : World} {K : PySem.W.Frag} {mg : Str → Option Value} {base : Heap} {qual : Str} {params : Arguments} {body : List Stmt} {scope : Scope} {f : Addr} {fd : FuncData} {k : Nat}
end
end MH
namespace ML
open PySem PySem.Spec PyProof.Rows L2
section
variable {X : Cx} {x : Str} {p pos pos' : Pos} {e : Expr} {es : List Expr} {ta : TA} {W : WX}
end
section
variable {u : Uv} {W : WX} {b : List Nat} {B G0 G G' H H' : Hp} {σ σ' : L2.St} {ε : Env}
end
end ML
end
section
set_option Elab.async false
set_option linter.all false
set_option maxRecDepth 100000
set_option maxHeartbeats 2000000
set_option autoImplicit false
namespace MH
open PySem PySem.Spec PyProof.Rows L2
section
variable {X : Cx} {CX : CXT} {k : Nat} {f C : Addr} {fd : FuncData} {ps : List Str} {sp : Sp} {E : L2.St → XK} {m : Str} {pos apos : Pos} {e o : Expr} {es : List Expr} {ta : TE} {t : TA}
def tMethX (C : Addr) (m : Str) (sp : Sp) (E : L2.St → XK) (ta : TE) (t : TA) : TE := fun σ H Q => ta σ H fun x H1 => ∃ a dx fs, x = .ref a ∧ H1 a = some (.ins C dx fs) ∧ fs.lookup m = none ∧ t σ H1 fun vs H2 => sp (x :: vs) H2 Q (E σ)
theorem pe_methX {pl : Sem Bool} (he : PE X o ta) (c : Cls X.K C) (hm : Meth X.K C m f) (F : FnOk X.prog X.w X.K X.mg X.base CX k f fd ps sp) (hr : Room k X.A) (hb : Binds X.K fd ps []) (hx : ∀ σ, PassesAt CX X σ (E σ)) (ha : PA X (e :: es) t)
    (hst : starEach (e :: es) X.env = (false, eval e X.env) :: starEach es X.env := by rfl) (hpl : (backTo pos (starEach es X.env)).any (·.1) = false := by rfl)
    (ht : eval (.Call (.Attribute o m apos) (e :: es) [] pos) X.env = (do
      let ov ← eval o X.env
      standAt apos.atName
      let (f, first) ← holding [ov] (getMethod ov m pl)
      callWith pos f first (backTo pos (starEach (e :: es) X.env)) (backToKw pos (keywordEach [] X.env))) := by rfl) :
    PE X (.Call (.Attribute o m apos) (e :: es) [] pos) (tMethX C m sp E ta t) := by
  refine ⟨fun pins s σ H Q I h => ?_⟩
  refine PySem.W.methodCall_KW (pl := pl) (thn (he.run pins s σ H _ I h) fun u s1 ⟨x, H1, I1, rx, a, dx, fs, ex, ea, l, q⟩ => ?_) ht
  subst ex
  obtain rfl : u = Value.ref a := rx
  refine getmeth_ok I1 ea c hm l ?_
  refine PySem.W.callWith_K (first := [.ref a]) (h₀ := X.base) I.ok.mod.kin hm.kp (thn (ha.run pos pins s1 σ H1 _ I1 q) fun us s2 ⟨vs, H2, I2, r, q2⟩ => ⟨I2.kIn, ?_⟩) hst hpl
  exact run_fnS (us := .ref a :: us) (vs := .ref a :: vs) F hr hb (hx σ) I2 (.cons rfl r) q2
end
end MH
namespace ML
open PySem PySem.Spec PyProof.Rows L2
inductive RtU where
  | ret (d d0 : D) | exn (x : Xn) (d0 : D) | bad
def SO.finU : SO → RtU
  | .nx ε => match ow0 ε with | some d0 => .ret .non d0 | none => .bad
  | .rt d ε => match ow0 ε with | some d0 => .ret d d0 | none => .bad
  | .ex x ε => match ow0 ε with | some d0 => .exn x d0 | none => .bad
  | _ => .bad
def runU (n : Nat) (F : Env → SO) (d0 : D) (ds : List D) : RtU := (F (envM n d0 ds)).finU
def SpU0 (u : Uv) (n : Nat) (F : D → List D → RtU) : Sp := fun vs H Q E => ∃ B G l d0 ds ws, ds.length = n ∧ vs = .ref l :: ws ∧ Ex G H ∧ Ex B H ∧ G l = none ∧ B l = none ∧ Own u G H l d0 ∧ RepL u G ds ws ∧ match F d0 ds with
  | .ret d d1 => ∀ v G' H', Ex G G' → Nw B G G' → Ex G' H' → Ex B H' → G' l = none → Own u G' H' l d1 → Rep u G' d v → Q v H'
  | .exn x d1 => ∀ c dd G' H', Ex G G' → Nw B G G' → Ex G' H' → Ex B H' → G' l = none → Own u G' H' l d1 → RepX u G' H' x c dd → E c dd H'
  | .bad => False
def SpU (u : Uv) (n : Nat) (F : D → List D → RtU) : Sp := fun vs H Q E => ∃ mo, SpU0 (u.mt mo []) n F vs H Q E
section
variable {u : Uv} {W : WX} {b : List Nat} {B G0 G G' H H' : Hp} {σ : L2.St} {ε : Env}
theorem spU_of {n : Nat} {F : D → List D → RtU} {vs : List V} {H : Hp} {Q : VK} {E : XK} (h : SpU0 u n F vs H Q E) : SpU u n F vs H Q E := by
  obtain ⟨B, G, l, d0, ds, ws, hl, ev, e, b, g1, g2, o, r, q⟩ := h
  refine ⟨u.mo, B, G, l, d0, ds, ws, hl, ev, e, b, g1, g2, (own_wt (u := u) (t := [])).mpr o, (repL_wt (u := u) (t := []) _ _).mpr r, ?_⟩
  cases ef : F d0 ds with
  | ret d d1 => rw [ef] at q; exact fun v G' H' a1 a2 a3 a4 a5 a6 a7 => q v G' H' a1 a2 a3 a4 a5 ((own_wt (u := u) (t := [])).mp a6) ((rep_wt (u := u) (t := []) _ _).mp a7)
  | exn x d1 => rw [ef] at q; exact fun c dd G' H' a1 a2 a3 a4 a5 a6 a7 => q c dd G' H' a1 a2 a3 a4 a5 ((own_wt (u := u) (t := [])).mp a6) ((xn_wt (u := u) (t := [])).mp a7)
  | bad => rw [ef] at q; exact q
variable {P : Program} {w : World} {mg : Str → Option Value} {base : Heap} {x qual : Str} {params : Arguments} {body : List Stmt} {scope : Scope} {f : Addr} {fd : FuncData}
theorem okU {K : PySem.W.Frag} {N ps : List Str} {k n m : Nat} {F : Env → SO} (hK : u.K = K ∧ u.tb = []) (F0 : FunD K x qual params body scope [] [] f fd) (S : FnScope N ps scope) (hn : N.length = n) (hm : ps.length = m + 1)
    (hb : ∀ (cdv : Value) (A : Around) (outer : List PySem.Env) (s : Shared) (H : Hp) (E : XK), Room k (A.deeper (envOfC qual scope s.heap.objs.size f cdv)) →
      Takes (cxOf (L2.CX P w) P w K mg base N qual scope f cdv A outer s H E) (fun c dd _ H' => E c dd H') →
      PassesOwn (model P w) (cxOf (L2.CX P w) P w K mg base N qual scope f cdv A outer s H E).A (cxOf (L2.CX P w) P w K mg base N qual scope f cdv A outer s H E).env (cxOf (L2.CX P w) P w K mg base N qual scope f cdv A outer s H E).xe →
      ∃ t, PSs (cxOf (L2.CX P w) P w K mg base N qual scope f cdv A outer s H E) body t ∧ ∀ mo, RzS (u.mt mo []) (fun c dd _ H' => E c dd H') [0] t F) :
    FnOk P w K mg base (L2.CX P w) (k + 1) f fd ps (SpU u m (runU n F)) := by
  refine F0.ok S (fun vs H Q E ⟨mo, B, G, l, d0, ds, ws, hl, ev, e, b, _, _, _, r, _⟩ => by rw [ev, List.length_cons, ← r.length, hl, hm]) fun cdv A outer s H vs Q E hr hsp => ?_
  obtain ⟨t, ht, hz⟩ := hb cdv A outer s H E hr (takes_of rfl rfl rfl rfl) (passes_of rfl)
  refine ⟨t, ht, ?_⟩
  obtain ⟨mo, B, G, l, d0, ds, ws, hl, rfl, e, b, hg, hb', ho, r, q⟩ := hsp
  subst hn
  have hN : 1 ≤ N.length := by
    have h1 := congrArg List.length S.pre
    rw [List.length_take] at h1
    omega
  refine hz mo B G G H _ _ _ (repE_startM rfl hN e b hg hb' ho r) ?_
  have fin : ∀ (σ' : L2.St) (ε' : Env) (G' H' : Hp) (d1 : D), RepE (u.mt mo []) B G G' H' σ' ε' → Kp [0] (L2.start N (.ref l :: ws)) σ' → ow0 ε' = some d1 → G' l = none ∧ Own (u.mt mo []) G' H' l d1 := fun σ' ε' G' H' d1 R k h1 => by
    obtain ⟨o, a1, a2⟩ := R.sl 0 _ (ow0_some h1)
    obtain ⟨l', rfl, a3, a4, a5⟩ := a2
    have k0 : σ'[0]? = some (some (.ref l)) := by rw [k 0 (by simp)]; rfl
    rw [a1] at k0
    cases k0
    exact ⟨a3, a5⟩
  unfold runU at q
  cases ef : F (envM N.length d0 ds) with
  | nx ε' =>
    rw [ef] at q
    simp only [SO.finU] at q
    cases eo : ow0 ε' with
    | none => rw [eo] at q; exact q.elim
    | some d1 =>
      rw [eo] at q
      exact fun σ' G' H' eg R k => by
        obtain ⟨z1, z2⟩ := fin σ' ε' G' H' d1 R k eo
        exact q .non G' H' eg R.gb R.gh R.bh z1 z2 (by simp only [Rep])
  | rt d ε' =>
    rw [ef] at q
    simp only [SO.finU] at q
    cases eo : ow0 ε' with
    | none => rw [eo] at q; exact q.elim
    | some d1 =>
      rw [eo] at q
      exact fun σ' v G' H' eg R k rv => by
        obtain ⟨z1, z2⟩ := fin σ' ε' G' H' d1 R k eo
        exact q v G' H' eg R.gb R.gh R.bh z1 z2 rv
  | ex y ε' =>
    rw [ef] at q
    simp only [SO.finU] at q
    cases eo : ow0 ε' with
    | none => rw [eo] at q; exact q.elim
    | some d1 =>
      rw [eo] at q
      exact fun c dd σ' G' H' eg R k rx => by
        obtain ⟨z1, z2⟩ := fin σ' ε' G' H' d1 R k eo
        exact q c dd G' H' eg R.gb R.gh R.bh z1 z2 rx
  | bk ε' => rw [ef] at q; exact q.elim
  | ct ε' => rw [ef] at q; exact q.elim
  | bad => rw [ef] at q; exact q.elim
def pfldF (i c : Nat) (f : Str) : Env → Out D := fun ε => match ownAt i ε with
  | some (.obj c' fs ds) => if c' = c then Out.opt (lookN fs ds f) ε else .bad
  | _ => .bad
theorem rz_pfld {i c : Nat} {f : Str} (hc : Cls u.K (u.cl c)) (hn : NoAttr u.K (u.cl c) f) : RzE u W (tFld u.K (tVar i) f) (pfldF i c f) := fun B G0 G H σ ε Q R q => by
  unfold pfldF at q
  cases e0 : ownAt i ε with
  | none => rw [e0] at q; exact q.elim
  | some x =>
    cases x with
    | obj c' fs ds =>
      rw [e0] at q
      simp only at q
      by_cases hcc : c' = c
      · subst hcc
        rw [if_pos rfl] at q
        obtain ⟨z, hz, h2⟩ := q.opt
        obtain ⟨l, a1, a2, a3, dx, ws, a4, a5, a6⟩ := R.own (ownAt_some e0)
        obtain ⟨y, y1, y2⟩ := lookN_rep a6 a5 hz
        exact ⟨_, a1, l, _, dx, _, y, rfl, a4, hc, hn, y1, h2.ret R y y2⟩
      · rw [if_neg hcc] at q; exact q.elim
    | _ => rw [e0] at q; exact q.elim
theorem lookup_zip_no {mn : Str} : ∀ {fs : List Str} {ws : List V}, mn ∉ fs → (fs.zip ws).lookup mn = none
  | [], _, _ => by simp
  | _ :: _, [], _ => by simp
  | f :: fs, w :: ws, h => by
    simp only [List.mem_cons, not_or] at h
    have h1 : (mn == f) = false := by simpa using h.1
    simp only [List.zip_cons_cons, List.lookup, h1]
    exact lookup_zip_no h.2
def methMF (n i c : Nat) (mn : Str) (fa : Env → Out (List D)) (F : D → List D → RtM) : Env → Out D := fun ε => match ownAt i ε with
  | some (.obj c' fs _) => if c' = c ∧ mn ∉ fs then (fa ε).bnd fun es ε1 => if es.length = n then (match ownAt i ε1 with
    | none => .bad
    | some d => match F d es with
      | .ret r d' => .ok r (ε1.set i (.ow d'))
      | .bad => .bad) else .bad else .bad
  | _ => .bad
theorem rz_methM {n i c : Nat} {mn : Str} {E : XK} {ta : TA} {fa : Env → Out (List D)} {F : D → List D → RtM} (ha : RzA u W ta fa) : RzE u W (tMeth (u.cl c) mn (SpM u n F) [] E (tVar i) ta) (methMF n i c mn fa F) := fun B G0 G H σ ε Q R q => by
  unfold methMF at q
  cases e0 : ownAt i ε with
  | none => rw [e0] at q; exact q.elim
  | some x =>
    cases x with
    | obj c' fs ds0 =>
      rw [e0] at q
      simp only at q
      by_cases hcc : c' = c ∧ mn ∉ fs
      case neg => rw [if_neg hcc] at q; exact q.elim
      rw [if_pos hcc] at q
      obtain ⟨rfl, hmf⟩ := hcc
      obtain ⟨l, hv, _, _, dx, ws0, o1, _, _⟩ := R.own (ownAt_some e0)
      refine ⟨_, hv, l, dx, _, rfl, o1, lookup_zip_no hmf, ha _ _ _ _ _ _ _ R (q.bnd.mono fun ds ε1 G1 H1 e1 R1 h1 vs rvs => ?_)⟩
      by_cases hn : ds.length = n
      · simp only [if_pos hn] at h1
        cases eo : ownAt i ε1 with
        | none => simp only [eo] at h1; exact h1.elim
        | some d =>
          simp only [eo] at h1
          obtain ⟨l', a1, a2, a3, a4⟩ := R1.own (ownAt_some eo)
          rw [hv] at a1
          cases a1
          refine spM_of ⟨sans H1 l, G1, l, d, ds, vs, hn, by simp, R1.gh, sans_ex, a2, sans_at, a4, rvs, ?_⟩
          cases ef : F d ds with
          | bad => rw [ef] at h1; exact h1.elim
          | ret r d' =>
            rw [ef] at h1
            exact fun v G' H' eg nw gh bh hg ho rv => Pst.ret' (a := r) h1 eg (R1.chg (ownAt_some eo) hv eg nw gh bh hg ho) v rv
      · simp only [if_neg hn] at h1; exact h1.elim
    | _ => rw [e0] at q; exact q.elim
def methUF (n i c : Nat) (mn : Str) (fa : Env → Out (List D)) (F : D → List D → RtU) : Env → Out D := fun ε => match ownAt i ε with
  | some (.obj c' fs _) => if c' = c ∧ mn ∉ fs then (fa ε).bnd fun es ε1 => if es.length = n then (match ownAt i ε1 with
    | none => .bad
    | some d => match F d es with
      | .ret r d' => .ok r (ε1.set i (.ow d'))
      | .exn x d' => .ex x (ε1.set i (.ow d'))
      | .bad => .bad) else .bad else .bad
  | _ => .bad
theorem rz_methU {n i c : Nat} {mn : Str} {ta : TA} {fa : Env → Out (List D)} {F : D → List D → RtU} (ha : RzA u W ta fa) : RzE u W (MH.tMethX (u.cl c) mn (SpU u n F) (WE W) (tVar i) ta) (methUF n i c mn fa F) := fun B G0 G H σ ε Q R q => by
  unfold methUF at q
  cases e0 : ownAt i ε with
  | none => rw [e0] at q; exact q.elim
  | some x =>
    cases x with
    | obj c' fs ds0 =>
      rw [e0] at q
      simp only at q
      by_cases hcc : c' = c ∧ mn ∉ fs
      case neg => rw [if_neg hcc] at q; exact q.elim
      rw [if_pos hcc] at q
      obtain ⟨rfl, hmf⟩ := hcc
      obtain ⟨l, hv, _, _, dx, ws0, o1, _, _⟩ := R.own (ownAt_some e0)
      refine ⟨_, hv, l, dx, _, rfl, o1, lookup_zip_no hmf, ha _ _ _ _ _ _ _ R (q.bnd.mono fun ds ε1 G1 H1 e1 R1 h1 vs rvs => ?_)⟩
      by_cases hn : ds.length = n
      · simp only [if_pos hn] at h1
        cases eo : ownAt i ε1 with
        | none => simp only [eo] at h1; exact h1.elim
        | some d =>
          simp only [eo] at h1
          obtain ⟨l', a1, a2, a3, a4⟩ := R1.own (ownAt_some eo)
          rw [hv] at a1
          cases a1
          refine spU_of ⟨sans H1 l, G1, l, d, ds, vs, hn, rfl, R1.gh, sans_ex, a2, sans_at, a4, rvs, ?_⟩
          cases ef : F d ds with
          | bad => rw [ef] at h1; exact h1.elim
          | ret r d' =>
            rw [ef] at h1
            exact fun v G' H' eg nw gh bh hg ho rv => Pst.ret' (a := r) h1 eg (R1.chg (ownAt_some eo) hv eg nw gh bh hg ho) v rv
          | exn y d' =>
            rw [ef] at h1
            exact fun c dd G' H' eg nw gh bh hg ho rx => h1 c dd G' H' eg (R1.chg (ownAt_some eo) hv eg nw gh bh hg ho) rx
      · simp only [if_neg hn] at h1; exact h1.elim
    | _ => rw [e0] at q; exact q.elim
def propMF (i c : Nat) (F : D → List D → RtM) : Env → Out D := fun ε => match ownAt i ε with
  | some (.obj c' fs ds) => if c' = c then (match F (.obj c' fs ds) [] with
    | .ret r d' => .ok r (ε.set i (.ow d'))
    | .bad => .bad) else .bad
  | _ => .bad
theorem rz_propM {i c : Nat} {E : XK} {F : D → List D → RtM} : RzE u W (tProp (u.cl c) (SpM u 0 F) [] E (tVar i)) (propMF i c F) := fun B G0 G H σ ε Q R q => by
  unfold propMF at q
  cases e0 : ownAt i ε with
  | none => rw [e0] at q; exact q.elim
  | some x =>
    cases x with
    | obj c' fs ds0 =>
      rw [e0] at q
      simp only at q
      by_cases hcc : c' = c
      case neg => rw [if_neg hcc] at q; exact q.elim
      rw [if_pos hcc] at q
      subst hcc
      obtain ⟨l, hv, a2, a3, a4⟩ := R.own (ownAt_some e0)
      obtain ⟨dx, ws0, o1, o2, o3⟩ := a4
      refine ⟨_, hv, l, dx, _, rfl, o1, ?_⟩
      refine spM_of ⟨sans H l, G, l, .obj c' fs ds0, [], [], rfl, rfl, R.gh, sans_ex, a2, sans_at, ⟨dx, ws0, o1, o2, o3⟩, by simp only [RepL], ?_⟩
      cases ef : F (.obj c' fs ds0) [] with
      | bad => rw [ef] at q; exact q.elim
      | ret r d' =>
        rw [ef] at q
        exact fun v G' H' eg nw gh bh hg ho rv => Pst.ret' (a := r) q eg (R.chg (ownAt_some e0) hv eg nw gh bh hg ho) v rv
    | _ => rw [e0] at q; exact q.elim
def lenMF (i c : Nat) (F : D → List D → RtM) : Env → Out D := fun ε => match ownAt i ε with
  | some (.obj c' fs ds) => if c' = c then (match F (.obj c' fs ds) [] with
    | .ret (.int n) d' => if 0 ≤ n ∧ n < 2 ^ 63 then .ok (.int n) (ε.set i (.ow d')) else .bad
    | _ => .bad) else .bad
  | _ => .bad
theorem rz_lenM {i c : Nat} {F : D → List D → RtM} : RzE u W (tCB (MH.rLenO (u.cl c) (SpM u 0 F)) (tCons (tVar i) tNil)) (lenMF i c F) := fun B G0 G H σ ε Q R q => by
  unfold lenMF at q
  cases e0 : ownAt i ε with
  | none => rw [e0] at q; exact q.elim
  | some x =>
    cases x with
    | obj c' fs ds0 =>
      rw [e0] at q
      simp only at q
      by_cases hcc : c' = c
      case neg => rw [if_neg hcc] at q; exact q.elim
      rw [if_pos hcc] at q
      subst hcc
      obtain ⟨l, hv, a2, a3, a4⟩ := R.own (ownAt_some e0)
      obtain ⟨dx, ws0, o1, o2, o3⟩ := a4
      refine ⟨_, hv, l, dx, _, rfl, o1, ?_⟩
      refine spM_of ⟨sans H l, G, l, .obj c' fs ds0, [], [], rfl, rfl, R.gh, sans_ex, a2, sans_at, ⟨dx, ws0, o1, o2, o3⟩, by simp only [RepL], ?_⟩
      cases ef : F (.obj c' fs ds0) [] with
      | bad => rw [ef] at q; exact q.elim
      | ret r d' =>
        rw [ef] at q
        cases r with
        | int n =>
          simp only at q
          by_cases hn : 0 ≤ n ∧ n < 2 ^ 63
          case neg => rw [if_neg hn] at q; exact q.elim
          rw [if_pos hn] at q
          exact fun v G' H' eg nw gh bh hg ho rv => ⟨n, rep_int.mp rv, hn.1, hn.2, Pst.ret' (a := D.int n) q eg (R.chg (ownAt_some e0) hv eg nw gh bh hg ho) v rv⟩
        | _ => exact q.elim
    | _ => rw [e0] at q; exact q.elim
end
end ML
end
section
set_option Elab.async false
set_option linter.all false
set_option maxRecDepth 100000
set_option maxHeartbeats 2000000
set_option autoImplicit false
namespace MH
open PySem PySem.Spec PyProof.Rows L2
section
variable {P : Program} {w : World} {mg : Str → Option Value} {base : Heap} {qual : Str} {params : Arguments} {body : List Stmt} {scope : Scope} {f : Addr} {fd : FuncData} {K : PySem.W.Frag} {k : Nat}
end
end MH
namespace ML
open PySem PySem.Spec PyProof.Rows L2
section
variable {u : Uv} {W : WX} {b : List Nat} {B G0 G G' H H' : Hp} {σ : L2.St} {ε : Env}
def kvG (ks : List Str) (ws : List V) : List (Key × V) := (ks.map Sum.inr).zip ws
def RzPs (u : Uv) (W : WX) (ts : List (TE × TE)) (ks : List Str) (f : Env → Out (List D)) : Prop := ∀ B G0 G H σ ε Q, RepE u B G0 G H σ ε →
  Pst u W B G0 σ G (f ε) (fun ds _ G' H' => ∀ ws, RepL u G' ds ws → Q ((ks.map V.str).zip ws) H') → tPairs ts σ H Q
theorem rps_nil : RzPs u W [] [] nilF := fun B G0 G H σ ε Q R h => h.ret R [] (by simp only [RepL])
theorem rps_cons {k : Str} {ks : List Str} {te : TE} {ts : List (TE × TE)} {fe : Env → Out D} {fr : Env → Out (List D)} (he : RzE u W te fe) (hr : RzPs u W ts ks fr) : RzPs u W ((tC (.str k), te) :: ts) (k :: ks) (consF fe fr) := fun B G0 G H σ ε Q R h =>
  he _ _ _ _ _ _ _ R (h.bnd.mono fun x ε1 G1 H1 e1 R1 h1 v rv => hr _ _ _ _ _ _ _ R1 (h1.bnd.mono fun xs ε2 G2 H2 e2 R2 h2 ws rws => h2.ret R2 (v :: ws) (by simp only [RepL]; exact ⟨v, ws, rfl, rv.mono e2, rws⟩)))
def dispGM (ks : List Str) (f : Env → Out (List D)) : Env → Out Sl := fun ε => (f ε).bnd fun ds ε1 => if ds.length = ks.length then .ok (.ow (.dk (ks.map .inr) ds)) ε1 else .bad
theorem put_new {k : Key} {v : V} {l : List (Key × V)} (h : ∀ p ∈ l, p.1 ≠ k) : putK l k v = l ++ [(k, v)] := by
  unfold putK
  rw [if_neg]
  intro e
  obtain ⟨p, hp, q⟩ := List.any_eq_true.mp e
  exact h p hp (by simpa using q)
theorem merge_new : ∀ {more l : List (Key × V)}, (more.map (·.1)).Nodup → (∀ p ∈ l, ∀ q ∈ more, p.1 ≠ q.1) → mergeK l more = l ++ more
  | [], l, _, _ => by simp [mergeK]
  | (k, v) :: r, l, hn, hd => by
    simp only [List.map_cons, List.nodup_cons] at hn
    have e : mergeK l ((k, v) :: r) = mergeK (putK l k v) r := rfl
    rw [e, put_new fun p hp => hd p hp (k, v) List.mem_cons_self, merge_new hn.2 ?_]
    · simp
    · intro p hp q hq
      rcases List.mem_append.mp hp with hp | hp
      · exact hd p hp q (List.mem_cons_of_mem _ hq)
      · simp only [List.mem_singleton] at hp
        subst hp
        exact fun z => hn.1 (by rw [show k = q.1 from z]; exact List.mem_map_of_mem hq)
theorem zip_keysG {ks : List Str} {ws : List V} (h : ks.length = ws.length) : ((ks.map V.str).zip ws) = (kvG ks ws).map fun kv => (kV kv.1, kv.2) := by
  unfold kvG
  induction ks generalizing ws with
  | nil => rfl
  | cons k ks ih =>
    cases ws with
    | nil => simp at h
    | cons w ws => simp only [List.map_cons, List.zip_cons_cons]; rw [ih (by simpa using h)]; rfl
theorem kvG_fst {ks : List Str} {ws : List V} (h : ks.length = ws.length) : (kvG ks ws).map (·.1) = ks.map Sum.inr := by
  unfold kvG
  induction ks generalizing ws with
  | nil => rfl
  | cons k ks ih =>
    cases ws with
    | nil => simp at h
    | cons w ws => simp only [List.map_cons, List.zip_cons_cons]; rw [ih (by simpa using h)]
theorem rzm_dispG {ks : List Str} {ts : List (TE × TE)} {f : Env → Out (List D)} (hp : RzPs u W ts ks f) (hn : ks.Nodup) (hl : ks.length ≤ 15) : RzM u W (tDisp ts) (dispGM ks f) := fun B G0 G H σ ε Q R q p hpn => by
  have fr := R.free hpn
  -- the new dict is set aside while the values are made
  have R1 : RepE u (upd B p (.dK [])) G0 G (upd H p (.dK [])) σ ε := (R.lay hpn (.dK [])).aside fr.1 upd_same (fun i d hi hs => apart_new R hpn i d hi hs)
  refine hp _ _ _ _ _ _ _ R1 ((q.bnd.less (Ex.upd fr.2.1)).mono fun ds ε1 G1 H1 e1 R2 h1 ws rws => ?_)
  by_cases hz : ds.length = ks.length
  case neg => simp only [if_neg hz] at h1; exact h1.elim
  simp only [if_pos hz] at h1
  have hw : ks.length = ws.length := by rw [← hz, rws.length]
  obtain ⟨b1, b2, b3, b4⟩ := R2.back fr.2.1 fr.2.2 (fun _ z => nomatch z)
  have hn2 : ((kvG ks ws).map (·.1)).Nodup := by
    rw [kvG_fst hw]
    exact List.pairwise_map.mpr (hn.imp fun h z => h (Sum.inr.inj z))
  refine ⟨b2, kvG ks ws, zip_keysG hw, ?_, ?_⟩
  · have := congrArg List.length (kvG_fst hw)
    simp only [List.length_map] at this
    omega
  · rw [merge_new hn2 (fun _ h => absurd h List.not_mem_nil), List.nil_append]
    have nt : Nt p (.dK []) := by constructor <;> intro _ z <;> cases z
    have R5 : RepE u B G0 G1 (upd H1 p (.dK (kvG ks ws))) σ ε1 := by
      refine ⟨b4.len, b4.g0, b4.gb, b4.gh.mut b1, fun a x q => ?_, fun i s hs => ?_, b4.dj, ?_⟩
      · rw [upd_ne (ne_of_none q fr.2.1)]; exact b4.bh a x q
      · obtain ⟨v, y1, y2⟩ := b4.sl i s hs
        refine ⟨v, y1, ?_⟩
        cases s with
        | no => trivial
        | xn x => exact y2
        | fz d => exact y2
        | ow d =>
          obtain ⟨m, a, b', c, w⟩ := y2
          have hm : m ≠ p := fun q => by subst q; exact b3 i d hs (by rw [y1, a])
          exact ⟨m, a, b', c, w.mono (Ex.refl _) fun _ z => by rw [upd_ne hm]; exact z⟩
      · exact b4.tb.chg b2 nt.1 nt.2 (fun _ _ _ _ _ => rfl) (fun a o n q => by rw [upd_ne n]; exact q)
    exact h1.ret' (Ex.refl _) R5 _ ⟨p, rfl, b1, fr.2.1, ⟨ws, upd_same, by simpa using hw, rws⟩, b3⟩
end
section
variable {u : Uv} {W : WX} {b : List Nat} {B G0 G G' H H' : Hp} {σ : L2.St} {ε : Env} {fn : List Str}
end
end ML
end
section
set_option Elab.async false
set_option linter.all false
set_option maxRecDepth 100000
set_option maxHeartbeats 2000000
set_option autoImplicit false
namespace MH
open PySem PySem.Spec PyProof.Rows L2
section
variable {X : Cx} {CX : CXT} {k : Nat} {f C : Addr} {fd : FuncData} {ps : List Str} {sp : Sp} {E : L2.St → XK} {x : Str} {p pos : Pos} {e : Expr} {es : List Expr} {t : TA}
def tMakeX (C : Addr) (sp : Sp) (E : L2.St → XK) (t : TA) : TE := fun σ H Q => t σ H fun vs H1 => ∀ x dx, H1 x = none → H1 dx = none → dx ≠ x →
  sp (.ref x :: vs) (upd (upd H1 dx (.own x)) x (.ins C dx [])) (fun v H2 => v = .non ∧ Q (.ref x) H2) (E σ)
theorem run_makeX {pins : List (Addr × Obj)} {σ : L2.St} {H : Hp} {s : Shared} {Q : VK} {us : List Value} {vs : List V} (M : Mk X.K C f) (F : FnOk X.prog X.w X.K X.mg X.base CX k f fd ps sp) (hr : Room (k + 1) X.A) (hb : Binds X.K fd ps [])
    (hx : PassesAt CX X σ (E σ)) (I : Inv X pins σ H s) (r : Vals vs us)
    (h : ∀ x dx, H x = none → H dx = none → dx ≠ x → sp (.ref x :: vs) (upd (upd H dx (.own x)) x (.ins C dx [])) (fun v H2 => v = .non ∧ Q (.ref x) H2) (E σ)) :
    wpAny (model X.prog X.w) X.A (call (.ref C) us) (EP X pins σ Q) X.xe s := by
  have hq := h (s.heap.objs.size + 1) s.heap.objs.size (I.hok.fresh (Nat.le_succ _)) (I.hok.fresh (Nat.le_refl _)) (Nat.ne_of_lt (Nat.lt_succ_self _))
  have I2 := Inv.made (C := C) I
  have r2 : Vals (V.ref (s.heap.objs.size + 1) :: vs) (Value.ref (s.heap.objs.size + 1) :: us) := .cons rfl r
  have hl : (Value.ref (s.heap.objs.size + 1) :: us).length = ps.length := by
    have e := r2.length
    rw [F.len _ _ _ _ hq] at e
    exact e.symm
  have b := hb _ (Value.ref (s.heap.objs.size + 1) :: us) I2.kIn (by rw [List.append_nil]; exact hl)
  rw [List.append_nil] at b
  refine wpAny_call (make_map (f := f) I.kIn M.makes M.init (beq_iff_eq.mp M.fn) (codeAny_mono (F.run _ X.stack _ _ ⟨Value.ref (s.heap.objs.size + 1) :: us, []⟩ (Value.ref (s.heap.objs.size + 1) :: us) _ _ (E σ) (hr.make C us [])
    (I2.env0.make C us []) b r2 hq) fun r s' hq' => ?_))
  cases r with
  | error e => exact hx pins _ _ e s' I2 hq'
  | ok fl =>
    cases fl with
    | ret u =>
      obtain ⟨v, H', I3, rv, ev, q3⟩ := I2.after hq'
      subst ev
      exact ⟨rv, ⟨V.ref (s.heap.objs.size + 1), H', I3, rfl, q3⟩⟩
    | next => exact False.elim hq'
    | brk => exact False.elim hq'
    | cont => exact False.elim hq'
theorem pe_makeX (M : Mk X.K C f) (F : FnOk X.prog X.w X.K X.mg X.base CX k f fd ps sp) (hr : Room (k + 1) X.A) (hg : Gl X x) (hm : X.mg x = some (.ref C)) (hb : Binds X.K fd ps []) (hx : ∀ σ, PassesAt CX X σ (E σ))
    (ha : PA X (e :: es) t) (hdb : (x == ("__debug__" : Str)) = false := by decide) (he : starEach (e :: es) X.env = (false, eval e X.env) :: starEach es X.env := by rfl) (hpl : (backTo pos (starEach es X.env)).any (·.1) = false := by rfl) :
    PE X (.Call (.Name x p) (e :: es) [] pos) (tMakeX C sp E t) := by
  refine ⟨fun pins s σ H Q I h => ?_⟩
  refine wpAny_Call_Name_kw (ld_glob I hg hm ?_ hdb)
  refine PySem.W.callWith_K (h₀ := X.base) I.ok.mod.kin M.kp (thn (ha.run pos pins s σ H _ I h) fun us s1 ⟨vs, H1, I1, r, q⟩ => ⟨I1.kIn, ?_⟩) he hpl
  exact run_makeX M F hr hb (hx σ) I1 r q
end
end MH
namespace ML
open PySem PySem.Spec PyProof.Rows L2
section
variable {u : Uv} {W : WX} {B G0 G G' H H' : Hp} {σ : L2.St} {ε : Env}
def makeU (c n : Nat) (fa : Env → Out (List D)) (F : D → List D → RtU) : Env → Out Sl := fun ε => (fa ε).bnd fun ds ε1 => if ds.length = n then (match F (.obj c [] []) ds with
  | .ret .non d1 => .ok (.ow d1) ε1
  | .exn x _ => .ex x ε1
  | _ => .bad) else .bad
theorem rzm_makeU {c n : Nat} {ta : TA} {fa : Env → Out (List D)} {F : D → List D → RtU} (ha : RzA u W ta fa) : RzM u W (MH.tMakeX (u.cl c) (SpU u n F) (WE W) ta) (makeU c n fa F) := fun B G0 G H σ ε Q R q =>
  ha _ _ _ _ _ _ _ R (q.bnd.mono fun ds ε1 G1 H1 e1 R1 h1 vs rvs x dx hx hdx hne => by
    by_cases hn : ds.length = n
    · simp only [if_pos hn] at h1
      have fx := R1.free hx
      have eB : Ex H1 (upd H1 dx (.own x)) := Ex.upd hdx
      have hBx : upd H1 dx (HO.own x) x = none := by rw [upd_ne (Ne.symm hne)]; exact hx
      have eH : Ex (upd H1 dx (.own x)) (upd (upd H1 dx (.own x)) x (.ins (u.cl c) dx [])) := Ex.upd hBx
      refine spU_of ⟨upd H1 dx (.own x), G1, x, .obj c [] [], ds, vs, hn, rfl, (R1.gh.trans eB).trans eH, eH, fx.1, hBx, ⟨dx, [], upd_same, rfl, by simp [RepL]⟩, rvs, ?_⟩
      cases ef : F (.obj c [] []) ds with
      | bad => rw [ef] at h1; exact h1.elim
      | exn y d1 =>
        rw [ef] at h1
        intro c2 dd G' H' eg nw gh bh hg ho rx
        exact h1 c2 dd G' H' eg (R1.grow eg (nw.less eB) (eB.trans bh) gh) rx
      | ret d d1 =>
        rw [ef] at h1
        cases d with
        | non =>
          intro v G' H' eg nw gh bh hg ho rv
          exact ⟨rep_non.mp rv, h1.ret' eg (R1.grow eg (nw.less eB) (eB.trans bh) gh) _ ⟨x, rfl, hg, fx.2.1, ho, apart_new R1 hx⟩⟩
        | _ => exact h1.elim
    · simp only [if_neg hn] at h1; exact h1.elim)
end
end ML
end
section
set_option Elab.async false
set_option linter.all false
set_option maxRecDepth 100000
set_option autoImplicit false
namespace ML
open PySem PySem.Spec PyProof.Rows L2
section
variable {α β : Type} {ε : Env} {d : D}
@[simp] theorem bnd_ok {a : α} {k : α → Env → Out β} : (Out.ok a ε).bnd k = k a ε := rfl
@[simp] theorem bnd_bad {k : α → Env → Out β} : (Out.bad : Out α).bnd k = .bad := rfl
@[simp] theorem toS_ok {a : α} {k : α → Env → SO} : (Out.ok a ε).toS k = k a ε := rfl
@[simp] theorem toS_bad {k : α → Env → SO} : (Out.bad : Out α).toS k = .bad := rfl
@[simp] theorem opt_some {a : α} : Out.opt (some a) ε = .ok a ε := rfl
@[simp] theorem opt_none : Out.opt (none : Option α) ε = .bad := rfl
def vOut (i : Nat) (ε : Env) : Option Sl → Out D
  | some (.fz d) => .ok d ε
  | some (.ow d) => .ok d (ε.set i (.fz d))
  | _ => .bad
@[simp] theorem vOut_fz {i : Nat} : vOut i ε (some (.fz d)) = .ok d ε := rfl
@[simp] theorem vOut_ow {i : Nat} : vOut i ε (some (.ow d)) = .ok d (ε.set i (.fz d)) := rfl
@[simp] theorem varF_ap {i : Nat} : varF i ε = vOut i ε ε[i]? := by unfold varF vOut; rfl
@[simp] theorem cF_ap : cF d ε = .ok d ε := rfl
def op2K2 (f : D → D → Option D) (x : D) : D → Env → Out D := fun y ε => Out.opt (f x y) ε
def op2K (fb : Env → Out D) (f : D → D → Option D) : D → Env → Out D := fun x ε => (fb ε).bnd (op2K2 f x)
@[simp] theorem op2F_ap {fa fb : Env → Out D} {f : D → D → Option D} : op2F fa fb f ε = (fa ε).bnd (op2K fb f) := rfl
@[simp] theorem op2K_ap {fb : Env → Out D} {f : D → D → Option D} : op2K fb f d ε = (fb ε).bnd (op2K2 f d) := rfl
@[simp] theorem op2K2_ap {f : D → D → Option D} {e : D} : op2K2 f d e ε = Out.opt (f d e) ε := rfl
def op1K (f : D → Option D) : D → Env → Out D := fun x ε => Out.opt (f x) ε
@[simp] theorem op1F_ap {fa : Env → Out D} {f : D → Option D} : op1F fa f ε = (fa ε).bnd (op1K f) := rfl
@[simp] theorem op1K_ap {f : D → Option D} : op1K f d ε = Out.opt (f d) ε := rfl
@[simp] theorem nilF_ap : nilF ε = .ok [] ε := rfl
def consK2 (x : D) : List D → Env → Out (List D) := fun xs ε => .ok (x :: xs) ε
def consK (fr : Env → Out (List D)) : D → Env → Out (List D) := fun x ε => (fr ε).bnd (consK2 x)
@[simp] theorem consF_ap {fa : Env → Out D} {fr : Env → Out (List D)} : consF fa fr ε = (fa ε).bnd (consK fr) := rfl
@[simp] theorem consK_ap {fr : Env → Out (List D)} : consK fr d ε = (fr ε).bnd (consK2 d) := rfl
@[simp] theorem consK2_ap {xs : List D} : consK2 d xs ε = .ok (d :: xs) ε := rfl
def tupK : List D → Env → Out D := fun xs ε1 => if xs.length ≤ 100000 then .ok (.tup xs) ε1 else .bad
@[simp] theorem tupF_ap {fa : Env → Out (List D)} : tupF fa ε = (fa ε).bnd tupK := rfl
@[simp] theorem tupK_ap {xs : List D} : tupK xs ε = if xs.length ≤ 100000 then .ok (.tup xs) ε else .bad := rfl
def lstK : List D → Env → Out Sl := fun xs ε1 => if xs.length ≤ 100000 then .ok (.ow (.lst xs)) ε1 else .bad
@[simp] theorem lstM_ap {fa : Env → Out (List D)} : lstM fa ε = (fa ε).bnd lstK := rfl
@[simp] theorem lstK_ap {xs : List D} : lstK xs ε = if xs.length ≤ 100000 then .ok (.ow (.lst xs)) ε else .bad := rfl
@[simp] theorem slget_fz : (Sl.fz d).get = some d := rfl
@[simp] theorem slget_ow : (Sl.ow d).get = some d := rfl
def frzK : Sl → Env → Out D := fun s ε1 => Out.opt s.get ε1
@[simp] theorem frzF_ap {f : Env → Out Sl} : frzF f ε = (f ε).bnd frzK := rfl
@[simp] theorem frzK_ap {s : Sl} : frzK s ε = Out.opt s.get ε := rfl
def fzK : D → Env → Out Sl := fun d ε1 => .ok (.fz d) ε1
@[simp] theorem fzM_ap {f : Env → Out D} : fzM f ε = (f ε).bnd fzK := rfl
@[simp] theorem fzK_ap : fzK d ε = .ok (.fz d) ε := rfl
def cbK (f : List D → Option D) : List D → Env → Out D := fun xs ε1 => Out.opt (f xs) ε1
@[simp] theorem cbF_ap {fa : Env → Out (List D)} {f : List D → Option D} : cbF fa f ε = (fa ε).bnd (cbK f) := rfl
@[simp] theorem cbK_ap {xs : List D} {f : List D → Option D} : cbK f xs ε = Out.opt (f xs) ε := rfl
@[simp] theorem asB_bl {b : Bool} : asB (.bl b) = some b := rfl
def testK : D → Env → Out Bool := fun d ε1 => Out.opt (asB d) ε1
@[simp] theorem testF_ap {f : Env → Out D} : testF f ε = (f ε).bnd testK := rfl
@[simp] theorem testK_ap : testK d ε = Out.opt (asB d) ε := rfl
def andTK (g : Env → Out Bool) : Bool → Env → Out Bool := fun b ε1 => if b = true then g ε1 else .ok false ε1
@[simp] theorem andT_ap {f g : Env → Out Bool} : andT f g ε = (f ε).bnd (andTK g) := rfl
@[simp] theorem andTK_ap {g : Env → Out Bool} {b : Bool} : andTK g b ε = if b = true then g ε else .ok false ε := rfl
def orTK (g : Env → Out Bool) : Bool → Env → Out Bool := fun b ε1 => if b = true then .ok true ε1 else g ε1
@[simp] theorem orT_ap {f g : Env → Out Bool} : orT f g ε = (f ε).bnd (orTK g) := rfl
@[simp] theorem orTK_ap {g : Env → Out Bool} {b : Bool} : orTK g b ε = if b = true then .ok true ε else g ε := rfl
def notTK : Bool → Env → Out Bool := fun b ε1 => .ok (!b) ε1
@[simp] theorem notT_ap {f : Env → Out Bool} : notT f ε = (f ε).bnd notTK := rfl
@[simp] theorem notTK_ap {b : Bool} : notTK b ε = .ok (!b) ε := rfl
def andVK (g : Env → Out D) : D → Env → Out D := fun d ε1 => match asB d with
  | some true => g ε1
  | some false => .ok (.bl false) ε1
  | none => .bad
@[simp] theorem andV_ap {f g : Env → Out D} : andV f g ε = (f ε).bnd (andVK g) := rfl
@[simp] theorem andVK_ap {g : Env → Out D} {b : Bool} : andVK g (.bl b) ε = if b = true then g ε else .ok (.bl false) ε := by cases b <;> rfl
def orVK (g : Env → Out D) : D → Env → Out D := fun d ε1 => match asB d with
  | some true => .ok (.bl true) ε1
  | some false => g ε1
  | none => .bad
@[simp] theorem orV_ap {f g : Env → Out D} : orV f g ε = (f ε).bnd (orVK g) := rfl
@[simp] theorem orVK_ap {g : Env → Out D} {b : Bool} : orVK g (.bl b) ε = if b = true then .ok (.bl true) ε else g ε := by cases b <;> rfl
def notVK : D → Env → Out D := fun d ε1 => Out.opt ((asB d).map fun b => .bl (!b)) ε1
@[simp] theorem notV_ap {f : Env → Out D} : notV f ε = (f ε).bnd notVK := rfl
@[simp] theorem notVK_ap {b : Bool} : notVK (.bl b) ε = .ok (.bl (!b)) ε := rfl
def ifEK (f g : Env → Out D) : Bool → Env → Out D := fun b ε1 => if b = true then f ε1 else g ε1
@[simp] theorem ifE_ap {c : Env → Out Bool} {f g : Env → Out D} : ifE c f g ε = (c ε).bnd (ifEK f g) := rfl
@[simp] theorem ifEK_ap {f g : Env → Out D} {b : Bool} : ifEK f g b ε = if b = true then f ε else g ε := rfl
def chainK3 (g : D → D → Option D) (y : D) : D → Env → Out D := fun z ε3 => Out.opt (g y z) ε3
def chainK2 (fc : Env → Out D) (f g : D → D → Option D) (x : D) : D → Env → Out D := fun y ε2 => match (f x y).bind asB with
  | some true => (fc ε2).bnd (chainK3 g y)
  | some false => .ok (.bl false) ε2
  | none => .bad
def chainK (fb fc : Env → Out D) (f g : D → D → Option D) : D → Env → Out D := fun x ε1 => (fb ε1).bnd (chainK2 fc f g x)
@[simp] theorem chainF_ap {fa fb fc : Env → Out D} {f g : D → D → Option D} : chainF fa fb fc f g ε = (fa ε).bnd (chainK fb fc f g) := rfl
@[simp] theorem chainK_ap {fb fc : Env → Out D} {f g : D → D → Option D} : chainK fb fc f g d ε = (fb ε).bnd (chainK2 fc f g d) := rfl
@[simp] theorem chainK3_ap {g : D → D → Option D} {e : D} : chainK3 g d e ε = Out.opt (g d e) ε := rfl
theorem chainK2_ap {fc : Env → Out D} {f g : D → D → Option D} {e : D} {b : Bool} (h : f d e = some (.bl b)) : chainK2 fc f g d e ε = if b = true then (fc ε).bnd (chainK3 g e) else .ok (.bl false) ε := by
  unfold chainK2; rw [h]; cases b <;> rfl
@[simp] theorem chainK2_cmp {fc : Env → Out D} {f : Int → Int → Bool} {g : D → D → Option D} {i j : Int} : chainK2 fc (cmpD f) g (.int i) (.int j) ε = if f i j = true then (fc ε).bnd (chainK3 g (.int j)) else .ok (.bl false) ε :=
  chainK2_ap (by simp [cmpD, intOp])
def SO.thn (o : SO) (F : Env → SO) : SO := match o with
  | .nx ε' => F ε'
  | o => o
@[simp] theorem thn_nx {F : Env → SO} : (SO.nx ε).thn F = F ε := rfl
@[simp] theorem thn_rt {F : Env → SO} : (SO.rt d ε).thn F = .rt d ε := rfl
@[simp] theorem thn_bad {F : Env → SO} : SO.bad.thn F = .bad := rfl
@[simp] theorem seqF_ap {F F' : Env → SO} : seqF F F' ε = (F ε).thn F' := by unfold seqF SO.thn; rfl
def ifSK (F F' : Env → SO) : Bool → Env → SO := fun b ε1 => if b = true then F ε1 else F' ε1
@[simp] theorem ifS_ap {c : Env → Out Bool} {F F' : Env → SO} : ifS c F F' ε = (c ε).toS (ifSK F F') := rfl
@[simp] theorem ifSK_ap {F F' : Env → SO} {b : Bool} : ifSK F F' b ε = if b = true then F ε else F' ε := rfl
def retK : D → Env → SO := fun d ε1 => .rt d ε1
@[simp] theorem retF_ap {f : Env → Out D} : retF f ε = (f ε).toS retK := rfl
@[simp] theorem retK_ap : retK d ε = .rt d ε := rfl
@[simp] theorem retN_ap : retN ε = .rt .non ε := rfl
@[simp] theorem nxF_ap : nxF ε = .nx ε := rfl
@[simp] theorem neverF_ap : neverF ε = .bad := rfl
def dropK : D → Env → SO := fun _ ε1 => .nx ε1
@[simp] theorem dropF_ap {f : Env → Out D} : dropF f ε = (f ε).toS dropK := rfl
@[simp] theorem dropK_ap : dropK d ε = .nx ε := rfl
@[simp] theorem gnF_ap {i : Nat} : gnF i d ε = some (ε.set i (.fz d)) := rfl
@[simp] theorem gnilF_ap : gnilF [] ε = some ε := rfl
@[simp] theorem gconsF_ap {gf : D → Env → Option Env} {gs : List D → Env → Option Env} {ds : List D} : gconsF gf gs (d :: ds) ε = (gf d ε).bind (gs ds) := rfl
@[simp] theorem gtupF_ap {n : Nat} {gs : List D → Env → Option Env} {ds : List D} : gtupF n gs (.tup ds) ε = if ds.length = n then gs ds ε else none := rfl
def optS : Option Env → SO
  | some ε2 => .nx ε2
  | none => .bad
@[simp] theorem optS_some : optS (some ε) = .nx ε := rfl
def asgK (gf : D → Env → Option Env) : D → Env → SO := fun d ε => optS (gf d ε)
@[simp] theorem asgF_ap {f : Env → Out D} {gf : D → Env → Option Env} : asgF f gf ε = (f ε).toS (asgK gf) := by
  unfold asgF asgK optS; congr 1
@[simp] theorem asgK_ap {gf : D → Env → Option Env} : asgK gf d ε = optS (gf d ε) := rfl
def setK (i : Nat) : Sl → Env → SO := fun s ε1 => .nx (ε1.set i s)
@[simp] theorem setM_ap {f : Env → Out Sl} {i : Nat} : setM f i ε = (f ε).toS (setK i) := rfl
@[simp] theorem setK_ap {i : Nat} {s : Sl} : setK i s ε = .nx (ε.set i s) := rfl
def parK2 (i j : Nat) (s : Sl) : Sl → Env → SO := fun t ε2 => .nx ((ε2.set i s).set j t)
def parK (i j : Nat) (g : Env → Out Sl) : Sl → Env → SO := fun s ε1 => (g ε1).toS (parK2 i j s)
@[simp] theorem parF_ap {i j : Nat} {f g : Env → Out Sl} : parF i j f g ε = (f ε).toS (parK i j g) := rfl
@[simp] theorem parK_ap {i j : Nat} {g : Env → Out Sl} {s : Sl} : parK i j g s ε = (g ε).toS (parK2 i j s) := rfl
@[simp] theorem parK2_ap {i j : Nat} {s t : Sl} : parK2 i j s t ε = .nx ((ε.set i s).set j t) := rfl
@[simp] theorem callO_ret : callO (.ret d) ε = .ok d ε := rfl
def callK (n : Nat) (F : List D → Rt) : List D → Env → Out D := fun ds ε1 => if ds.length = n then callO (F ds) ε1 else .bad
@[simp] theorem callF_ap {n : Nat} {fa : Env → Out (List D)} {F : List D → Rt} : callF n fa F ε = (fa ε).bnd (callK n F) := rfl
@[simp] theorem callK_ap {n : Nat} {ds : List D} {F : List D → Rt} : callK n F ds ε = if ds.length = n then callO (F ds) ε else .bad := rfl
@[simp] theorem fin_nx : (SO.nx ε).fin = .ret .non := rfl
@[simp] theorem fin_rt : (SO.rt d ε).fin = .ret d := rfl
def oAt : Option Sl → Option D
  | some (.ow d) => some d
  | _ => none
@[simp] theorem oAt_ow : oAt (some (.ow d)) = some d := rfl
@[simp] theorem ownAt_ap {i : Nat} : ownAt i ε = oAt ε[i]? := by unfold ownAt oAt; rfl
def callMR (i : Nat) (ε : Env) : RtM → Out D
  | .ret r d' => .ok r (ε.set i (.ow d'))
  | .bad => .bad
@[simp] theorem callMR_ret {i : Nat} {e : D} : callMR i ε (.ret d e) = .ok d (ε.set i (.ow e)) := rfl
def callMK2 (i : Nat) (F : D → List D → RtM) (ds : List D) (ε : Env) : Option D → Out D
  | none => .bad
  | some d => callMR i ε (F d ds)
@[simp] theorem callMK2_some {i : Nat} {F : D → List D → RtM} {ds : List D} : callMK2 i F ds ε (some d) = callMR i ε (F d ds) := rfl
def callMK (n i : Nat) (F : D → List D → RtM) : List D → Env → Out D := fun ds ε1 => if ds.length = n then callMK2 i F ds ε1 (oAt ε1[i]?) else .bad
@[simp] theorem callMK_ap {n i : Nat} {F : D → List D → RtM} {ds : List D} : callMK n i F ds ε = if ds.length = n then callMK2 i F ds ε (oAt ε[i]?) else .bad := rfl
def callM0 (n i : Nat) (fa : Env → Out (List D)) (F : D → List D → RtM) (ε : Env) : Option D → Out D
  | none => .bad
  | some _ => (fa ε).bnd (callMK n i F)
@[simp] theorem callM0_some {n i : Nat} {fa : Env → Out (List D)} {F : D → List D → RtM} : callM0 n i fa F ε (some d) = (fa ε).bnd (callMK n i F) := rfl
@[simp] theorem callMF_ap {n i : Nat} {fa : Env → Out (List D)} {F : D → List D → RtM} : callMF n i fa F ε = callM0 n i fa F ε (oAt ε[i]?) := by
  unfold callMF
  rw [ownAt_ap]
  cases oAt ε[i]? with
  | none => rfl
  | some d =>
    show (fa ε).bnd _ = (fa ε).bnd _
    congr 1
@[simp] theorem finM_nx {r : Env} : (SO.nx (.ow d :: r)).finM = .ret .non d := rfl
@[simp] theorem finM_rt {e : D} {r : Env} : (SO.rt e (.ow d :: r)).finM = .ret e d := rfl
def oL : Option Sl → Option (List D)
  | some (.ow (.lst ds)) => some ds
  | _ => none
@[simp] theorem oL_ow {ds : List D} : oL (some (.ow (.lst ds))) = some ds := rfl
@[simp] theorem ownL_ap {i : Nat} : ownL i ε = oL ε[i]? := by unfold ownL oL; rfl
def appK2 (i : Nat) (d : D) (ε : Env) : Option (List D) → SO
  | some ds => if ds.length < 100000 then .nx (ε.set i (.ow (.lst (ds ++ [d])))) else .bad
  | none => .bad
@[simp] theorem appK2_some {i : Nat} {ds : List D} : appK2 i d ε (some ds) = if ds.length < 100000 then .nx (ε.set i (.ow (.lst (ds ++ [d])))) else .bad := rfl
def appK (i : Nat) : D → Env → SO := fun d ε => appK2 i d ε (oL ε[i]?)
@[simp] theorem appK_ap {i : Nat} : appK i d ε = appK2 i d ε (oL ε[i]?) := rfl
def app0 (i : Nat) (f : Env → Out D) (ε : Env) : Option (List D) → SO
  | none => .bad
  | some _ => (f ε).toS (appK i)
@[simp] theorem app0_some {i : Nat} {f : Env → Out D} {ds : List D} : app0 i f ε (some ds) = (f ε).toS (appK i) := rfl
@[simp] theorem appF_ap {i : Nat} {f : Env → Out D} : appF i f ε = app0 i f ε (oL ε[i]?) := by
  unfold appF
  rw [ownL_ap]
  cases oL ε[i]? with
  | none => rfl
  | some d =>
    show (f ε).toS _ = (f ε).toS _
    congr 1
def pop2 (i : Nat) (ds : List D) (ε : Env) : Option D → Out D
  | some d => .ok d (ε.set i (.ow (.lst ds.dropLast)))
  | none => .bad
@[simp] theorem pop2_some {i : Nat} {ds : List D} : pop2 i ds ε (some d) = .ok d (ε.set i (.ow (.lst ds.dropLast))) := rfl
def pop0 (i : Nat) (ε : Env) : Option (List D) → Out D
  | none => .bad
  | some ds => pop2 i ds ε ds[ds.length - 1]?
@[simp] theorem pop0_some {i : Nat} {ds : List D} : pop0 i ε (some ds) = pop2 i ds ε ds[ds.length - 1]? := rfl
@[simp] theorem popF_ap {i : Nat} : popF i ε = pop0 i ε (oL ε[i]?) := by
  unfold popF
  rw [ownL_ap]
  cases oL ε[i]? with
  | none => rfl
  | some ds =>
    unfold pop0 pop2
    rfl
def setI3 (i : Nat) (d : D) (ds : List D) (ε : Env) : Option Nat → SO
  | some j => .nx (ε.set i (.ow (.lst (ds.set j d))))
  | none => .bad
@[simp] theorem setI3_some {i j : Nat} {ds : List D} : setI3 i d ds ε (some j) = .nx (ε.set i (.ow (.lst (ds.set j d)))) := rfl
def setI2 (i : Nat) (d : D) (ε : Env) : D → Option (List D) → SO
  | .int k, some ds => setI3 i d ds ε (ixN ds.length k)
  | _, _ => .bad
@[simp] theorem setI2_some {i : Nat} {k : Int} {ds : List D} : setI2 i d ε (.int k) (some ds) = setI3 i d ds ε (ixN ds.length k) := rfl
def setIK2 (i : Nat) (d : D) : D → Env → SO := fun k ε => setI2 i d ε k (oL ε[i]?)
@[simp] theorem setIK2_ap {i : Nat} {e : D} : setIK2 i d e ε = setI2 i d ε e (oL ε[i]?) := rfl
def setI1 (i : Nat) (fi : Env → Out D) (d : D) (ε : Env) : Option (List D) → SO
  | none => .bad
  | some _ => (fi ε).toS (setIK2 i d)
@[simp] theorem setI1_some {i : Nat} {fi : Env → Out D} {ds : List D} : setI1 i fi d ε (some ds) = (fi ε).toS (setIK2 i d) := rfl
def setIK (i : Nat) (fi : Env → Out D) : D → Env → SO := fun d ε => setI1 i fi d ε (oL ε[i]?)
@[simp] theorem setIK_ap {i : Nat} {fi : Env → Out D} : setIK i fi d ε = setI1 i fi d ε (oL ε[i]?) := rfl
@[simp] theorem setIF_ap {i : Nat} {fe fi : Env → Out D} : setIF i fe fi ε = (fe ε).toS (setIK i fi) := by
  unfold setIF
  congr 1
def lkAt : Option Sl → Option D
  | some (.fz d) => some d
  | some (.ow d) => some d
  | _ => none
@[simp] theorem lkAt_fz : lkAt (some (.fz d)) = some d := rfl
@[simp] theorem lkAt_ow : lkAt (some (.ow d)) = some d := rfl
@[simp] theorem lookAt_ap {i : Nat} : lookAt i ε = lkAt ε[i]? := by unfold lookAt lkAt; rfl
def ixP2 (ε : Env) : D → Option D → Out D
  | .int j, some (.lst xs) => Out.opt (atI xs j) ε
  | _, _ => .bad
@[simp] theorem ixP2_ap {j : Int} {xs : List D} : ixP2 ε (.int j) (some (.lst xs)) = Out.opt (atI xs j) ε := rfl
def ixPK (i : Nat) : D → Env → Out D := fun e ε => ixP2 ε e (lkAt ε[i]?)
@[simp] theorem ixPK_ap {i : Nat} : ixPK i d ε = ixP2 ε d (lkAt ε[i]?) := rfl
def ixP0 (i : Nat) (fb : Env → Out D) (ε : Env) : Option D → Out D
  | none => .bad
  | some _ => (fb ε).bnd (ixPK i)
@[simp] theorem ixP0_some {i : Nat} {fb : Env → Out D} : ixP0 i fb ε (some d) = (fb ε).bnd (ixPK i) := rfl
@[simp] theorem ixPF_ap {i : Nat} {fb : Env → Out D} : ixPF i fb ε = ixP0 i fb ε (lkAt ε[i]?) := by
  unfold ixPF
  rw [lookAt_ap]
  cases lkAt ε[i]? with
  | none => rfl
  | some d =>
    show (fb ε).bnd _ = (fb ε).bnd _
    congr 1
def scOut (ε : Env) : Option D → Out D
  | some z => if isSc z = true then .ok z ε else .bad
  | none => .bad
@[simp] theorem scOut_some : scOut ε (some d) = if isSc d = true then .ok d ε else .bad := rfl
@[simp] theorem isSc_bl {b : Bool} : isSc (.bl b) = true := rfl
@[simp] theorem isSc_int {i : Int} : isSc (.int i) = true := rfl
def opPLK (i : Nat) (f : D → D → Option D) : D → Env → Out D := fun e ε => scOut ε ((lkAt ε[i]?).bind fun d => f d e)
@[simp] theorem opPLK_ap {i : Nat} {f : D → D → Option D} : opPLK i f d ε = scOut ε ((lkAt ε[i]?).bind fun x => f x d) := rfl
def opPL0 (i : Nat) (fb : Env → Out D) (f : D → D → Option D) (ε : Env) : Option D → Out D
  | none => .bad
  | some _ => (fb ε).bnd (opPLK i f)
@[simp] theorem opPL0_some {i : Nat} {fb : Env → Out D} {f : D → D → Option D} : opPL0 i fb f ε (some d) = (fb ε).bnd (opPLK i f) := rfl
@[simp] theorem opPLF_ap {i : Nat} {fb : Env → Out D} {f : D → D → Option D} : opPLF i fb f ε = opPL0 i fb f ε (lkAt ε[i]?) := by
  unfold opPLF
  rw [lookAt_ap]
  cases lkAt ε[i]? with
  | none => rfl
  | some d =>
    show (fb ε).bnd _ = (fb ε).bnd _
    congr 1
def opPRK (i : Nat) (f : D → D → Option D) : D → Env → Out D := fun d ε => scOut ε ((lkAt ε[i]?).bind fun e => f d e)
@[simp] theorem opPRK_ap {i : Nat} {f : D → D → Option D} : opPRK i f d ε = scOut ε ((lkAt ε[i]?).bind fun e => f d e) := rfl
@[simp] theorem opPRF_ap {i : Nat} {fa : Env → Out D} {f : D → D → Option D} : opPRF i fa f ε = (fa ε).bnd (opPRK i f) := by
  unfold opPRF
  congr 1
@[simp] theorem nilMs_ap : nilMs ε = .ok [] ε := rfl
def consMK2 (s : Sl) : List Sl → Env → Out (List Sl) := fun ss ε => .ok (s :: ss) ε
def consMK (fr : Env → Out (List Sl)) : Sl → Env → Out (List Sl) := fun s ε => (fr ε).bnd (consMK2 s)
@[simp] theorem consMs_ap {f : Env → Out Sl} {fr : Env → Out (List Sl)} : consMs f fr ε = (f ε).bnd (consMK fr) := rfl
@[simp] theorem consMK_ap {fr : Env → Out (List Sl)} {s : Sl} : consMK fr s ε = (fr ε).bnd (consMK2 s) := rfl
@[simp] theorem consMK2_ap {s : Sl} {ss : List Sl} : consMK2 s ss ε = .ok (s :: ss) ε := rfl
def par3K (i j k : Nat) : List Sl → Env → SO := fun ss ε1 => match ss with
  | [s, t, r] => .nx (((ε1.set i s).set j t).set k r)
  | _ => .bad
@[simp] theorem par3F_ap {i j k : Nat} {f : Env → Out (List Sl)} : par3F i j k f ε = (f ε).toS (par3K i j k) := rfl
@[simp] theorem par3K_ap {i j k : Nat} {s t r : Sl} : par3K i j k [s, t, r] ε = .nx (((ε.set i s).set j t).set k r) := rfl
def dinP2 (neg : Bool) (ε : Env) (kt : Option (List Key)) : Option Key → Option D → Out D
  | some k, some (.dk ks xs) => .ok (.bl (if neg then !(valD ks xs k).isSome else (valD ks xs k).isSome)) ε
  | none, some (.dt ks xs) => (match kt with
    | some k => .ok (.bl (if neg then !(valD ks xs k).isSome else (valD ks xs k).isSome)) ε
    | none => .bad)
  | _, _ => .bad
@[simp] theorem dinP2_ap {neg : Bool} {k : Key} {ks : List Key} {xs : List D} {kt : Option (List Key)} : dinP2 neg ε kt (some k) (some (.dk ks xs)) = .ok (.bl (if neg then !(valD ks xs k).isSome else (valD ks xs k).isSome)) ε := rfl
@[simp] theorem dinP2_t {neg : Bool} {k : List Key} {ks : List (List Key)} {xs : List D} : dinP2 neg ε (some k) none (some (.dt ks xs)) = .ok (.bl (if neg then !(valD ks xs k).isSome else (valD ks xs k).isSome)) ε := rfl
def dinPK (neg : Bool) (i : Nat) : D → Env → Out D := fun k ε => dinP2 neg ε (toKeys k) (toKey k) (lkAt ε[i]?)
@[simp] theorem dinPK_ap {neg : Bool} {i : Nat} : dinPK neg i d ε = dinP2 neg ε (toKeys d) (toKey d) (lkAt ε[i]?) := rfl
@[simp] theorem dinPF_ap {neg : Bool} {i : Nat} {fk : Env → Out D} : dinPF neg i fk ε = (fk ε).bnd (dinPK neg i) := by
  unfold dinPF
  congr 1
@[simp] theorem toKey_tup {ds : List D} : toKey (.tup ds) = none := rfl
@[simp] theorem toKeys_tup {ds : List D} : toKeys (.tup ds) = kysOf ds := rfl
@[simp] theorem toKey_int {i : Int} : toKey (.int i) = some (.inl i) := rfl
@[simp] theorem dnewM_ap : dnewM ε = .ok (.ow (.dk [] [])) ε := rfl
def done1K2 (k : D) : D → Env → Out Sl := fun d ε2 => Out.opt ((toKey k).map fun k => .ow (.dk [k] [d])) ε2
def done1K (fv : Env → Out D) : D → Env → Out Sl := fun k ε1 => (fv ε1).bnd (done1K2 k)
@[simp] theorem done1M_ap {fk fv : Env → Out D} : done1M fk fv ε = (fk ε).bnd (done1K fv) := rfl
@[simp] theorem done1K_ap {fv : Env → Out D} : done1K fv d ε = (fv ε).bnd (done1K2 d) := rfl
@[simp] theorem done1K2_ap {e : D} : done1K2 d e ε = Out.opt ((toKey d).map fun k => .ow (.dk [k] [e])) ε := rfl
def dputO (i : Nat) (ε : Env) : Option D → SO
  | some x' => .nx (ε.set i (.ow x'))
  | none => .bad
@[simp] theorem dputO_some {i : Nat} : dputO i ε (some d) = .nx (ε.set i (.ow d)) := rfl
def dputK2 (i : Nat) (d : D) : D → Env → SO := fun k ε2 => dputO i ε2 ((oAt ε2[i]?).bind fun x => dput x k d)
@[simp] theorem dputK2_ap {i : Nat} {e : D} : dputK2 i d e ε = dputO i ε ((oAt ε[i]?).bind fun x => dput x e d) := rfl
def dput1 (i : Nat) (fk : Env → Out D) (d : D) (ε : Env) : Option D → SO
  | none => .bad
  | some _ => (fk ε).toS (dputK2 i d)
@[simp] theorem dput1_some {i : Nat} {fk : Env → Out D} {e : D} : dput1 i fk d ε (some e) = (fk ε).toS (dputK2 i d) := rfl
def dputK (i : Nat) (fk : Env → Out D) : D → Env → SO := fun d ε => dput1 i fk d ε (oAt ε[i]?)
@[simp] theorem dputK_ap {i : Nat} {fk : Env → Out D} : dputK i fk d ε = dput1 i fk d ε (oAt ε[i]?) := rfl
@[simp] theorem dputF_ap {i : Nat} {fe fk : Env → Out D} : dputF i fe fk ε = (fe ε).toS (dputK i fk) := by
  unfold dputF
  congr 1
@[simp] theorem itemsD_lst {ds : List D} : itemsD (.lst ds) = some ds := rfl
@[simp] theorem itemsD_tup {ds : List D} : itemsD (.tup ds) = some ds := rfl
@[simp] theorem itemsD_str {z : Str} : itemsD (.str z) = some (signsD z) := rfl
def itK : D → Env → Out (List D) := fun d ε1 => Out.opt (itemsD d) ε1
@[simp] theorem itF_ap {f : Env → Out D} : itF f ε = (f ε).bnd itK := rfl
@[simp] theorem itK_ap : itK d ε = Out.opt (itemsD d) ε := rfl
def enK : D → Env → Out (List D) := fun d ε1 => match d with
  | .lst ds => .ok (enumD ds) ε1
  | .tup ds => .ok (enumD ds) ε1
  | .str z => .ok (enumD (signsD z)) ε1
  | _ => .bad
@[simp] theorem enF_ap {f : Env → Out D} : enF f ε = (f ε).bnd enK := rfl
@[simp] theorem enK_lst {ds : List D} : enK (.lst ds) ε = .ok (enumD ds) ε := rfl
@[simp] theorem enK_tup {ds : List D} : enK (.tup ds) ε = .ok (enumD ds) ε := rfl
@[simp] theorem enK_str {z : Str} : enK (.str z) ε = .ok (enumD (signsD z)) ε := rfl
def rng1K : D → Env → Out (List D) := fun d ε1 => match d with
  | .int n => if okR n = true then .ok (rangeD 0 n.toNat) ε1 else .bad
  | _ => .bad
@[simp] theorem rng1F_ap {f : Env → Out D} : rng1F f ε = (f ε).bnd rng1K := rfl
def rng2K2 (d : D) : D → Env → Out (List D) := fun e ε2 => match d, e with
  | .int i, .int j => if okR i = true ∧ okR j = true then .ok (rangeD i (j - i).toNat) ε2 else .bad
  | _, _ => .bad
def rng2K (g : Env → Out D) : D → Env → Out (List D) := fun d ε1 => (g ε1).bnd (rng2K2 d)
@[simp] theorem rng2F_ap {f g : Env → Out D} : rng2F f g ε = (f ε).bnd (rng2K g) := rfl
@[simp] theorem rng2K_ap {g : Env → Out D} : rng2K g d ε = (g ε).bnd (rng2K2 d) := rfl
def starK2 (ds : List D) : List D → Env → Out (List D) := fun xs ε2 => .ok (ds ++ xs) ε2
@[simp] theorem starK2_ap {ds xs : List D} : starK2 ds xs ε = .ok (ds ++ xs) ε := rfl
def starK (fr : Env → Out (List D)) : D → Env → Out (List D) := fun d ε1 => match d with
  | .lst ds => (fr ε1).bnd (starK2 ds)
  | .tup ds => (fr ε1).bnd (starK2 ds)
  | .str z => if z.cps.size ≤ 100000 then (fr ε1).bnd (starK2 (signsD z)) else .bad
  | _ => .bad
@[simp] theorem starF_ap {f : Env → Out D} {fr : Env → Out (List D)} : starF f fr ε = (f ε).bnd (starK fr) := rfl
@[simp] theorem starK_lst {fr : Env → Out (List D)} {ds : List D} : starK fr (.lst ds) ε = (fr ε).bnd (starK2 ds) := rfl
@[simp] theorem starK_tup {fr : Env → Out (List D)} {ds : List D} : starK fr (.tup ds) ε = (fr ε).bnd (starK2 ds) := rfl
@[simp] theorem starK_str {fr : Env → Out (List D)} {z : Str} : starK fr (.str z) ε = if z.cps.size ≤ 100000 then (fr ε).bnd (starK2 (signsD z)) else .bad := rfl
def forK (gf : D → Env → Option Env) (F : Env → SO) : List D → Env → SO := fun ds ε1 => forF gf F ds ε1
@[simp] theorem forS_ap {fi : Env → Out (List D)} {gf : D → Env → Option Env} {F : Env → SO} : forS fi gf F ε = (fi ε).toS (forK gf F) := rfl
@[simp] theorem forK_ap {gf : D → Env → Option Env} {F : Env → SO} {ds : List D} : forK gf F ds ε = forF gf F ds ε := rfl
def lcK (vs : List Nat) (gf : D → Env → Option Env) (tf : Env → Out Bool) (ef : Env → Out D) : List D → Env → Out Sl := fun ds ε1 => (lcL vs gf tf ef ds [] (wipeE ε1 vs)).bnd mkL
@[simp] theorem lcM_ap {vs : List Nat} {fi : Env → Out (List D)} {gf : D → Env → Option Env} {tf : Env → Out Bool} {ef : Env → Out D} : lcM vs fi gf tf ef ε = (fi ε).bnd (lcK vs gf tf ef) := rfl
@[simp] theorem lcK_ap {vs : List Nat} {gf : D → Env → Option Env} {tf : Env → Out Bool} {ef : Env → Out D} {ds : List D} : lcK vs gf tf ef ds ε = (lcL vs gf tf ef ds [] (wipeE ε vs)).bnd mkL := rfl
@[simp] theorem mkL_ap {ds : List D} : mkL ds ε = .ok (.ow (.lst ds)) ε := rfl
@[simp] theorem tYesF_ap : tYesF ε = .ok true ε := rfl
@[simp] theorem wipeE_nil : wipeE ε [] = ε := rfl
@[simp] theorem wipeE_cons {v : Nat} {vs : List Nat} : wipeE ε (v :: vs) = (wipeE ε vs).set v .no := rfl
@[simp] theorem addD_int {i j : Int} : addD (.int i) (.int j) = some (.int (i + j)) := rfl
@[simp] theorem subD_int {i j : Int} : subD (.int i) (.int j) = some (.int (i - j)) := rfl
@[simp] theorem negD_int {i : Int} : negD (.int i) = some (.int (-i)) := rfl
@[simp] theorem cmpD_int {f : Int → Int → Bool} {i j : Int} : cmpD f (.int i) (.int j) = some (.bl (f i j)) := rfl
@[simp] theorem intD_int {i : Int} : intD [.int i] = some (.int i) := rfl
@[simp] theorem intD_bl {b : Bool} : intD [.bl b] = some (.int (if b then 1 else 0)) := rfl
theorem modD_int {i j : Int} (h : 0 < j) : modD (.int i) (.int j) = some (.int (i % j)) := by simp [modD, intOp, h]
theorem fdivD_int {i j : Int} (h : 0 < j) (h2 : j < 1073741824) : fdivD (.int i) (.int j) = some (.int (i / j)) := by simp [fdivD, intOp, h, h2]
@[simp] theorem tupleD_lst {ds : List D} : tupleD [.lst ds] = some (.tup ds) := rfl
@[simp] theorem tupleD_tup {ds : List D} : tupleD [.tup ds] = some (.tup ds) := rfl
@[simp] theorem listD_tup {ds : List D} : listD [.tup ds] = some (.lst ds) := rfl
@[simp] theorem eqD_int {i j : Int} : eqD (.int i) (.int j) = some (.bl (i == j)) := rfl
@[simp] theorem neD_int {i j : Int} : neD (.int i) (.int j) = some (.bl (!(i == j))) := rfl
@[simp] theorem lenA_lst {c : Nat} {F : List D → Rt} {ds : List D} : lenA c F [.lst ds] = some (.int ds.length) := rfl
@[simp] theorem lenA_tup {c : Nat} {F : List D → Rt} {ds : List D} : lenA c F [.tup ds] = some (.int ds.length) := rfl
@[simp] theorem lenA_scr {c : Nat} {F : List D → Rt} {ns : List Int} : lenA c F [.scr ns] = some (.int ns.length) := rfl
@[simp] theorem lenD_lst {ds : List D} : lenD [.lst ds] = some (.int ds.length) := rfl
theorem atI_nat {α : Type} (xs : List α) (k : Nat) : atI xs (k : Int) = xs[k]? := by
  unfold atI ixN
  by_cases h : k < xs.length
  · simp [h]
  · simp [h]
theorem atI_of {α : Type} (xs : List α) {i : Int} (h : 0 ≤ i) : atI xs i = xs[i.toNat]? := by
  have e : i = (i.toNat : Int) := by omega
  conv => lhs; rw [e]
  rw [atI_nat]
def isiK (T : String) : D → Env → Out D := fun d ε1 => match d with
  | .scr _ => .bad
  | .mo _ _ _ _ => .ok (.bl false) ε1
  | .obj _ _ _ => .ok (.bl false) ε1
  | d => .ok (.bl (isiB d T)) ε1
@[simp] theorem isiF_ap {f : Env → Out D} {T : String} : isiF f T ε = (f ε).bnd (isiK T) := by unfold isiF isiK; rfl
def isoK (c : Nat) : D → Env → Out D := fun d ε1 => match d with
  | .scr _ => .bad
  | .mo _ _ _ _ => .bad
  | .obj c' _ _ => if c' = c then .ok (.bl true) ε1 else .bad
  | _ => .ok (.bl false) ε1
@[simp] theorem isoF_ap {f : Env → Out D} {c : Nat} : isoF f c ε = (f ε).bnd (isoK c) := by unfold isoF isoK; rfl
def fldK (c : Nat) (f : Str) : D → Env → Out D := fun d ε1 => match d with
  | .obj c' fs ds => if c' = c then Out.opt (lookN fs ds f) ε1 else .bad
  | _ => .bad
@[simp] theorem fldF_ap {g : Env → Out D} {c : Nat} {f : Str} : fldF g c f ε = (g ε).bnd (fldK c f) := by unfold fldF fldK; rfl
@[simp] theorem fldK_one {c : Nat} {f : Str} {xs : List D} : fldK c f (.obj c [f] (d :: xs)) ε = .ok d ε := by simp [fldK, lookN, valD, Out.opt]
def joinK2 (a : Str) : D → Env → Out D := fun d ε2 => match d with
    | .lst ds => Out.opt ((strsD ds).bind (joinS a)) ε2
    | .tup ds => Out.opt ((strsD ds).bind (joinS a)) ε2
    | _ => .bad
def joinK (g : Env → Out D) : D → Env → Out D := fun a ε1 => match a with
  | .str a => (g ε1).bnd (joinK2 a)
  | _ => .bad
@[simp] theorem joinF_ap {f g : Env → Out D} : joinF f g ε = (f ε).bnd (joinK g) := by unfold joinF joinK joinK2; rfl
@[simp] theorem joinK_ap {g : Env → Out D} {a : Str} : joinK g (.str a) ε = (g ε).bnd (joinK2 a) := rfl
@[simp] theorem joinK2_lst {a : Str} {ds : List D} : joinK2 a (.lst ds) ε = Out.opt ((strsD ds).bind (joinS a)) ε := rfl
def makeR (ε : Env) : RtM → Out Sl
  | .ret .non d1 => .ok (.ow d1) ε
  | _ => .bad
@[simp] theorem makeR_ret : makeR ε (.ret .non d) = .ok (.ow d) ε := rfl
def makeK (c n : Nat) (F : D → List D → RtM) : List D → Env → Out Sl := fun ds ε1 => if ds.length = n then makeR ε1 (F (.obj c [] []) ds) else .bad
@[simp] theorem makeM_ap {c n : Nat} {fa : Env → Out (List D)} {F : D → List D → RtM} : makeM c n fa F ε = (fa ε).bnd (makeK c n F) := by unfold makeM makeK makeR; rfl
@[simp] theorem makeK_ap {c n : Nat} {ds : List D} {F : D → List D → RtM} : makeK c n F ds ε = if ds.length = n then makeR ε (F (.obj c [] []) ds) else .bad := rfl
@[simp] theorem noPF_ap : noPF ε = .ok none ε := rfl
def partK : D → Env → Out (Option Int) := fun d ε1 => match d with
  | .int i => .ok (some i) ε1
  | _ => .bad
@[simp] theorem partF_ap {f : Env → Out D} : partF f ε = (f ε).bnd partK := by unfold partF partK; rfl
@[simp] theorem partK_ap {i : Int} : partK (.int i) ε = .ok (some i) ε := rfl
def slK3 (d : D) (lo : Option Int) : Option Int → Env → Out D := fun hi ε3 => Out.opt (sliceD d lo hi) ε3
def slK2 (fh : Env → Out (Option Int)) (d : D) : Option Int → Env → Out D := fun lo ε2 => (fh ε2).bnd (slK3 d lo)
def slK (fl fh : Env → Out (Option Int)) : D → Env → Out D := fun d ε1 => (fl ε1).bnd (slK2 fh d)
@[simp] theorem slF_ap {f : Env → Out D} {fl fh : Env → Out (Option Int)} : slF f fl fh ε = (f ε).bnd (slK fl fh) := rfl
@[simp] theorem slK_ap {fl fh : Env → Out (Option Int)} : slK fl fh d ε = (fl ε).bnd (slK2 fh d) := rfl
@[simp] theorem slK2_ap {fh : Env → Out (Option Int)} {lo : Option Int} : slK2 fh d lo ε = (fh ε).bnd (slK3 d lo) := rfl
@[simp] theorem slK3_ap {lo hi : Option Int} : slK3 d lo hi ε = Out.opt (sliceD d lo hi) ε := rfl
end
@[simp] theorem bools_map {α : Type} (f : α → Bool) : ∀ xs : List α, bools (xs.map fun x => D.bl (f x)) = some (xs.map f)
  | [] => rfl
  | x :: xs => by simp [bools, bools_map f xs]
theorem allD_map {α : Type} (f : α → Bool) (xs : List α) : allD [.lst (xs.map fun x => D.bl (f x))] = some (.bl (xs.all f)) := by
  simp [allD, oneD]
@[simp] theorem allD_rep (n : Nat) : allD [.lst (List.replicate n (.bl true))] = some (.bl true) := by
  have h := allD_map (fun _ : Nat => true) (List.replicate n 0)
  simpa only [List.map_replicate, List.all_replicate, Bool.or_true, ite_self] using h
end ML
end
section
set_option Elab.async false
set_option linter.all false
set_option maxRecDepth 100000
set_option autoImplicit false
namespace ML
open PySem (Str)
open PySem PySem.W L2
structure Nice {α : Type} (f : α → D) (k : Nat) : Prop where
  eq : ∀ a b, PyData.eqv (toPy (f a)) (toPy (f b)) = true ↔ a = b
  lay : ∀ a, PyData.canLay0 (toPy (f a)) = true
  dep : ∀ a, PyData.depth (toPy (f a)) ≤ k
section
variable {α β : Type} {f : α → D} {g : β → D} {k m : Nat}
theorem Nice.mono (h : Nice f k) (hk : k ≤ m) : Nice f m := ⟨h.eq, h.lay, fun a => Nat.le_trans (h.dep a) hk⟩
theorem Nice.ok (h : Nice f k) (hk : k ≤ 64) (a : α) : okPy (f a) = true := by
  have := h.dep a
  simp only [okPy, SeqAt.shaped, h.lay, Bool.true_and, decide_eq_true_eq]; omega
theorem Nice.eqB [DecidableEq α] (h : Nice f k) (a b : α) : ML.eqB (f a) (f b) = decide (a = b) := by
  by_cases e : a = b
  · rw [decide_eq_true e]; exact (h.eq a b).2 e
  · rw [decide_eq_false e]
    cases hh : ML.eqB (f a) (f b) with
    | false => rfl
    | true => exact absurd ((h.eq a b).1 hh) e
theorem Nice.inj (h : Nice f k) {a b : α} (e : f a = f b) : a = b := (h.eq a b).1 (by rw [e]; exact (h.eq b b).2 rfl)
theorem Nice.eqD [DecidableEq α] (h : Nice f k) (hk : k ≤ 64) (a b : α) : ML.eqD (f a) (f b) = some (.bl (decide (a = b))) := by
  simp only [ML.eqD, h.ok hk, h.eqB, Bool.and_self, if_true]
theorem Nice.neD [DecidableEq α] (h : Nice f k) (hk : k ≤ 64) (a b : α) : ML.neD (f a) (f b) = some (.bl (!decide (a = b))) := by
  simp only [ML.neD, h.ok hk, h.eqB, Bool.and_self, if_true]
theorem Nice.layAll (h : Nice f k) : ∀ xs : List α, PyData.canLayAll0 (toPyL (xs.map f)) = true
  | [] => rfl
  | x :: xs => by simp only [List.map_cons, toPyL, PyData.canLayAll0, h.lay, h.layAll xs, Bool.and_self]
theorem Nice.depAll (h : Nice f k) : ∀ xs : List α, PyData.depthAll (toPyL (xs.map f)) ≤ k
  | [] => Nat.zero_le _
  | x :: xs => by
    simp only [List.map_cons, toPyL, PyData.depthAll]
    exact Nat.max_le.mpr ⟨h.dep x, h.depAll xs⟩
theorem Nice.eqAll (h : Nice f k) : ∀ xs ys : List α, PyData.eqvAll (toPyL (xs.map f)) (toPyL (ys.map f)) = true ↔ xs = ys
  | [], [] => by simp [toPyL, PyData.eqvAll]
  | [], _ :: _ => by simp [toPyL, PyData.eqvAll]
  | _ :: _, [] => by simp [toPyL, PyData.eqvAll]
  | x :: xs, y :: ys => by
    simp only [List.map_cons, toPyL, PyData.eqvAll, Bool.and_eq_true, h.eq, h.eqAll xs ys, List.cons.injEq]
theorem Nice.tup (h : Nice f k) : Nice (fun xs : List α => D.tup (xs.map f)) (k + 1) where
  eq := fun a b => by simp only [toPy, PyData.eqv]; exact h.eqAll a b
  lay := fun a => by simp only [toPy, PyData.canLay0]; exact h.layAll a
  dep := fun a => by simp only [toPy, PyData.depth]; exact Nat.succ_le_succ (h.depAll a)
theorem Nice.lst (h : Nice f k) : Nice (fun xs : List α => D.lst (xs.map f)) (k + 1) where
  eq := fun a b => by simp only [toPy, PyData.eqv]; exact h.eqAll a b
  lay := fun a => by simp only [toPy, PyData.canLay0]; exact h.layAll a
  dep := fun a => by simp only [toPy, PyData.depth]; exact Nat.succ_le_succ (h.depAll a)
theorem Nice.pair (h : Nice f k) (h' : Nice g k) : Nice (fun p : α × β => D.tup [f p.1, g p.2]) (k + 1) where
  eq := fun a b => by
    simp only [toPy, toPyL, PyData.eqv, PyData.eqvAll, Bool.and_true, Bool.and_eq_true, h.eq, h'.eq]
    exact ⟨fun e => Prod.ext e.1 e.2, fun e => by rw [e]; exact ⟨rfl, rfl⟩⟩
  lay := fun a => by simp only [toPy, toPyL, PyData.canLay0, PyData.canLayAll0, h.lay, h'.lay, Bool.and_self]
  dep := fun a => by
    simp only [toPy, toPyL, PyData.depth, PyData.depthAll]
    exact Nat.succ_le_succ (Nat.max_le.mpr ⟨h.dep _, Nat.max_le.mpr ⟨h'.dep _, Nat.zero_le _⟩⟩)
theorem Nice.comp {γ : Type} (h : Nice f k) (e : γ → α) (he : ∀ a b, e a = e b → a = b) : Nice (fun c => f (e c)) k where
  eq := fun a b => by rw [h.eq]; exact ⟨he a b, fun x => by rw [x]⟩
  lay := fun a => h.lay _
  dep := fun a => h.dep _
theorem Nice.any [DecidableEq α] (h : Nice f k) (a : α) : ∀ xs : List α, ((xs.map f).any fun y => ML.eqB y (f a)) = decide (a ∈ xs)
  | [] => by simp
  | x :: xs => by
    rw [List.map_cons, List.any_cons, h.any a xs, h.eqB]
    by_cases e : x = a
    · subst e; simp
    · have : ¬ a = x := fun q => e q.symm
      simp [e, this]
theorem Nice.inB [DecidableEq α] (h : Nice f k) (hk : k ≤ 63) (a : α) (xs : List α) : ML.inB (f a) (.lst (xs.map f)) = some (decide (a ∈ xs)) := by
  have h1 := h.ok (by omega) a
  have h2 : okPy (.lst (xs.map f)) = true := h.lst.ok (by omega) xs
  have e : ML.inB (f a) (.lst (xs.map f)) = if (okPy (f a) && okPy (.lst (xs.map f))) = true then some ((xs.map f).any fun y => ML.eqB y (f a)) else none := by
    cases f a <;> rfl
  rw [e, h1, h2, Bool.and_self, if_pos rfl, h.any]
theorem Nice.inD [DecidableEq α] (h : Nice f k) (hk : k ≤ 63) (a : α) (xs : List α) : ML.inD (f a) (.lst (xs.map f)) = some (.bl (decide (a ∈ xs))) := by
  simp [ML.inD, h.inB hk]
theorem Nice.notInD [DecidableEq α] (h : Nice f k) (hk : k ≤ 63) (a : α) (xs : List α) : ML.notInD (f a) (.lst (xs.map f)) = some (.bl (!decide (a ∈ xs))) := by
  simp [ML.notInD, h.inB hk]
structure NOrd {α : Type} (f : α → D) (lt : α → α → Bool) : Prop where
  al : ∀ a b, PySem.W.alike (toPy (f a)) (toPy (f b)) = true
  lt : ∀ a b, PySem.W.dataLt (toPy (f a)) (toPy (f b)) = lt a b
def leOf {α : Type} (lt : α → α → Bool) (a b : α) : Bool := !lt b a
theorem NOrd.le {lt : α → α → Bool} (h : NOrd f lt) (a b : α) : PySem.W.dataLe false toPy (f a) (f b) = leOf lt a b := by
  rw [PySem.W.dataLe_eq]
  show (!PySem.W.dataLt (toPy (f b)) (toPy (f a))) = _
  rw [h.lt]; rfl
theorem merge_map {α β : Type} {le : α → α → Bool} {le' : β → β → Bool} {f : α → β} (h : ∀ a b, le' (f a) (f b) = le a b) (xs : List α) : (xs.map f).mergeSort le' = (xs.mergeSort le).map f := by
  rw [List.map_mergeSort]
  intro a _ b _
  exact (h a b).symm
theorem NOrd.sortL {lt : α → α → Bool} (h : NOrd f lt) (xs : List α) : ML.sortL (xs.map f) = (xs.mergeSort (leOf lt)).map f := merge_map (fun a b => h.le a b) xs
def topK : D → Bool
  | .tup _ => true
  | _ => false
def topN : D → Bool
  | .int _ => true
  | .str _ => true
  | .bl _ => true
  | .lst _ => true
  | _ => false
theorem sortOk_of {lt : α → α → Bool} (h : NOrd f lt) (n : Nice f k) (hk : k ≤ 64) {xs : List α} (ht : (∀ x ∈ xs, topK (f x) = true) ∨ ∀ x ∈ xs, topN (f x) = true) : sortOk (xs.map f) = true := by
  unfold sortOk
  simp only [Bool.and_eq_true, Bool.or_eq_true, List.all_eq_true, List.mem_map, forall_exists_index, and_imp, forall_apply_eq_imp_iff₂]
  refine ⟨⟨fun a _ b _ => h.al a b, ?_⟩, fun a _ => n.ok hk a⟩
  rcases ht with ht | ht
  · exact .inl fun a ha => by have := ht a ha; unfold topK at this; exact this
  · exact .inr fun a ha => by have := ht a ha; unfold topN at this; exact this
theorem NOrd.sorted {lt : α → α → Bool} (h : NOrd f lt) (n : Nice f k) (hk : k ≤ 64) {xs : List α} (ht : (∀ x ∈ xs, topK (f x) = true) ∨ ∀ x ∈ xs, topN (f x) = true) : sortAD [.lst (xs.map f)] = some (.lst ((xs.mergeSort (leOf lt)).map f)) := by
  have e : sortAD [.lst (xs.map f)] = if sortOk (xs.map f) = true then some (.lst (ML.sortL (xs.map f))) else none := rfl
  rw [e, if_pos (sortOk_of h n hk ht), h.sortL]
end
end ML
end
section
set_option Elab.async false
set_option linter.all false
set_option maxRecDepth 100000
set_option autoImplicit false
namespace ML
open PySem (Str)
open PySem PySem.W L2
structure Lin {α : Type} (lt : α → α → Bool) : Prop where
  tr : ∀ a b c, leOf lt a b = true → leOf lt b c = true → leOf lt a c = true
  tot : ∀ a b, (leOf lt a b || leOf lt b a) = true
  an : ∀ a b, leOf lt a b = true → leOf lt b a = true → a = b
section
variable {α β : Type} {f : α → D} {g : β → D} {k m : Nat} {lt : α → α → Bool}
theorem toks_ne {x y : PyData} (h : PySem.W.alike x y = true) (e : PyData.eqv x y = false) : PySem.W.keyToks x ≠ PySem.W.keyToks y := fun q => by
  have h1 := (PySem.W.toks_eqv x y h).2 e [] [.inl 0]
  rw [q, PySem.W.lex_pre, PyProof.Rows.lex_irrefl] at h1
  exact absurd h1 (by decide +kernel)
theorem NOrd.lin (h : NOrd f lt) (n : Nice f k) : Lin lt where
  tr := fun a b c h1 h2 => by
    rw [← h.le] at h1 h2 ⊢
    exact (PySem.W.sortLe_total _ false _).trans _ _ _ h1 h2
  tot := fun a b => by
    rw [← h.le, ← h.le]
    rw [Bool.or_eq_true]
    exact (PySem.W.sortLe_total _ false _).total _ _
  an := fun a b h1 h2 => by
    simp only [leOf, Bool.not_eq_true'] at h1 h2
    rw [← h.lt] at h1 h2
    have e : PySem.W.keyToks (toPy (f a)) = PySem.W.keyToks (toPy (f b)) := PyProof.Rows.lex_total _ _ h2 h1
    refine (n.eq a b).1 ?_
    cases q : PyData.eqv (toPy (f a)) (toPy (f b)) with
    | true => rfl
    | false => exact absurd e (toks_ne (h.al a b) q)
theorem Lin.sorted (L : Lin lt) (xs : List α) : (xs.mergeSort (leOf lt)).Pairwise (fun a b => leOf lt a b = true) := List.pairwise_mergeSort (fun a b c h1 h2 => L.tr a b c h1 h2) (fun a b => L.tot a b) xs
def sortKK (F : List D → Rt) : D → Env → Out D := fun d ε1 => Out.opt (sortK F d) ε1
@[simp] theorem sortKF_ap {fa : Env → Out D} {F : List D → Rt} {ε : Env} : sortKF fa F ε = (fa ε).bnd (sortKK F) := rfl
@[simp] theorem sortKK_ap {F : List D → Rt} {ε : Env} {d : D} : sortKK F d ε = Out.opt (sortK F d) ε := rfl
end
end ML
namespace LW
open PySem (Str)
open L2 ML
end LW
end
section
set_option Elab.async false
set_option linter.all false
set_option maxRecDepth 100000
set_option autoImplicit false
namespace ML
open PySem (Str)
open PySem PySem.W L2
section
variable {α β : Type} {ε : Env} {d : D}
def isi2K (T U : String) : D → Env → Out D := fun d ε1 => match d with
  | .scr _ => .bad
  | .mo _ _ _ _ => .ok (.bl false) ε1
  | .obj _ _ _ => .ok (.bl false) ε1
  | d => .ok (.bl (isiB d T || isiB d U)) ε1
@[simp] theorem isi2F_ap {f : Env → Out D} {T U : String} : isi2F f T U ε = (f ε).bnd (isi2K T U) := by unfold isi2F isi2K; rfl
def propK (c : Nat) (F : List D → Rt) : D → Env → Out D := fun d ε1 => match d with
  | .obj c' fs ds => if c' = c then callO (F [.obj c' fs ds]) ε1 else .bad
  | _ => .bad
@[simp] theorem propF_ap {f : Env → Out D} {c : Nat} {F : List D → Rt} : propF f c F ε = (f ε).bnd (propK c F) := by unfold propF propK; rfl
@[simp] theorem propK_ap {c : Nat} {F : List D → Rt} {fs : List Str} {ds : List D} : propK c F (.obj c fs ds) ε = callO (F [.obj c fs ds]) ε := by simp [propK]
@[simp] theorem min2D_ap {i j : Int} : min2D [.int i, .int j] = some (.int (if j < i then j else i)) := rfl
@[simp] theorem max2D_ap {i j : Int} : max2D [.int i, .int j] = some (.int (if i < j then j else i)) := rfl
@[simp] theorem absD_ap {i : Int} : absD [.int i] = some (.int (if i < 0 then -i else i)) := rfl
def rg1K : D → Env → Out (Int × Int) := fun d ε1 => match d with
  | .int n => .ok (0, n) ε1
  | _ => .bad
@[simp] theorem rg1F_ap {f : Env → Out D} : rg1F f ε = (f ε).bnd rg1K := by unfold rg1F rg1K; rfl
@[simp] theorem rg1K_ap {n : Int} : rg1K (.int n) ε = .ok (0, n) ε := rfl
def rg2K2 (d : D) : D → Env → Out (Int × Int) := fun e ε2 => match d, e with
  | .int m, .int n => .ok (m, n) ε2
  | _, _ => .bad
def rg2K (g : Env → Out D) : D → Env → Out (Int × Int) := fun d ε1 => (g ε1).bnd (rg2K2 d)
@[simp] theorem rg2F_ap {f g : Env → Out D} : rg2F f g ε = (f ε).bnd (rg2K g) := by unfold rg2F rg2K rg2K2; rfl
@[simp] theorem rg2K_ap {g : Env → Out D} : rg2K g d ε = (g ε).bnd (rg2K2 d) := rfl
@[simp] theorem rg2K2_ap {m n : Int} : rg2K2 (.int m) (.int n) ε = .ok (m, n) ε := rfl
def tupRgK : Int × Int → Env → Out D := fun p ε1 => if okRg p = true then .ok (.tup (rangeD p.1 (p.2 - p.1).toNat)) ε1 else .bad
@[simp] theorem tupRgF_ap {f : Env → Out (Int × Int)} : tupRgF f ε = (f ε).bnd tupRgK := by unfold tupRgF tupRgK; rfl
def lstRgK : Int × Int → Env → Out Sl := fun p ε1 => if okRg p = true then .ok (.ow (.lst (rangeD p.1 (p.2 - p.1).toNat))) ε1 else .bad
@[simp] theorem lstRgM_ap {f : Env → Out (Int × Int)} : lstRgM f ε = (f ε).bnd lstRgK := by unfold lstRgM lstRgK; rfl
def lc2K (vs vs1 : List Nat) (gf : D → Env → Option Env) (tf : Env → Out Bool) (fi1 : Env → Out (List D)) (gf1 : D → Env → Option Env) (tf1 : Env → Out Bool) (ef : Env → Out D) : List D → Env → Out Sl := fun ds ε1 => (lc2L vs vs1 gf tf fi1 gf1 tf1 ef ds [] (wipeE ε1 vs)).bnd mkL
@[simp] theorem lc2M_ap {vs vs1 : List Nat} {fi fi1 : Env → Out (List D)} {gf gf1 : D → Env → Option Env} {tf tf1 : Env → Out Bool} {ef : Env → Out D} : lc2M vs vs1 fi gf tf fi1 gf1 tf1 ef ε = (fi ε).bnd (lc2K vs vs1 gf tf fi1 gf1 tf1 ef) := rfl
@[simp] theorem lc2K_ap {vs vs1 : List Nat} {fi1 : Env → Out (List D)} {gf gf1 : D → Env → Option Env} {tf tf1 : Env → Out Bool} {ef : Env → Out D} {ds : List D} : lc2K vs vs1 gf tf fi1 gf1 tf1 ef ds ε = (lc2L vs vs1 gf tf fi1 gf1 tf1 ef ds [] (wipeE ε vs)).bnd mkL := rfl
end
section
variable {α β : Type}
@[simp] theorem dnewTM_ap {ε : Env} : dnewTM ε = .ok (.ow (.dt [] [])) ε := rfl
def done1TK2 (k : D) : D → Env → Out Sl := fun d ε2 => Out.opt ((toKeys k).map fun k => .ow (.dt [k] [d])) ε2
def done1TK (fv : Env → Out D) : D → Env → Out Sl := fun k ε1 => (fv ε1).bnd (done1TK2 k)
@[simp] theorem done1TM_ap {fk fv : Env → Out D} {ε : Env} : done1TM fk fv ε = (fk ε).bnd (done1TK fv) := rfl
@[simp] theorem done1TK_ap {fv : Env → Out D} {d : D} {ε : Env} : done1TK fv d ε = (fv ε).bnd (done1TK2 d) := rfl
@[simp] theorem done1TK2_ap {k d : D} {ε : Env} : done1TK2 k d ε = Out.opt ((toKeys k).map fun k => .ow (.dt [k] [d])) ε := rfl
def listP0 (ε : Env) : Option D → Out D
  | some z => .ok z ε
  | none => .bad
@[simp] theorem listP0_ap {ε : Env} {z : D} : listP0 ε (some z) = .ok z ε := rfl
@[simp] theorem listPF_ap {i : Nat} {ε : Env} : listPF i ε = listP0 ε ((lkAt ε[i]?).bind lstD) := rfl
@[simp] theorem dgetF_ap {f fk : Env → Out D} {ε : Env} : dgetF f fk ε = op2F f fk dgetD ε := rfl
def dgetP2 (k : D) (ε : Env) : Option Sl → Out D
  | some (.ow x) => Out.opt (dgetD x k) ε
  | _ => .bad
def dgetPK (i : Nat) : D → Env → Out D := fun k ε1 => dgetP2 k ε1 ε1[i]?
def dgetP0 (i : Nat) (fk : Env → Out D) (ε : Env) : Option Sl → Out D
  | some (.ow _) => (fk ε).bnd (dgetPK i)
  | _ => .bad
@[simp] theorem dgetP2_ap {k x : D} {ε : Env} : dgetP2 k ε (some (.ow x)) = Out.opt (dgetD x k) ε := rfl
@[simp] theorem dgetPK_ap {i : Nat} {k : D} {ε : Env} : dgetPK i k ε = dgetP2 k ε ε[i]? := rfl
@[simp] theorem dgetP0_ap {i : Nat} {fk : Env → Out D} {ε : Env} {x : D} : dgetP0 i fk ε (some (.ow x)) = (fk ε).bnd (dgetPK i) := rfl
@[simp] theorem dgetPF_ap {i : Nat} {fk : Env → Out D} {ε : Env} : dgetPF i fk ε = dgetP0 i fk ε ε[i]? := by
  unfold dgetPF dgetP0
  cases ε[i]? with
  | none => rfl
  | some s => cases s with
    | ow x =>
      simp only
      congr 1
      funext k ε1
      simp only [dgetPK, dgetP2, ownAt]
      cases ε1[i]? with
      | none => rfl
      | some s => cases s <;> rfl
    | _ => rfl
def starRgK2 (p : Int × Int) : List D → Env → Out (List D) := fun xs ε2 => .ok (rangeD p.1 (p.2 - p.1).toNat ++ xs) ε2
def starRgK (fr : Env → Out (List D)) : Int × Int → Env → Out (List D) := fun p ε1 => if okRg p = true then (fr ε1).bnd (starRgK2 p) else .bad
@[simp] theorem starRgF_ap {f : Env → Out (Int × Int)} {fr : Env → Out (List D)} {ε : Env} : starRgF f fr ε = (f ε).bnd (starRgK fr) := rfl
@[simp] theorem starRgK2_ap {p : Int × Int} {xs : List D} {ε : Env} : starRgK2 p xs ε = .ok (rangeD p.1 (p.2 - p.1).toNat ++ xs) ε := rfl
def remO (i : Nat) (ε : Env) : Option (List D) → SO
  | some ds => .nx (ε.set i (.ow (.lst ds)))
  | none => .bad
def remK (i : Nat) : D → Env → SO := fun d ε1 => remO i ε1 ((oL ε1[i]?).bind fun ds => remD ds d)
def rem0 (i : Nat) (f : Env → Out D) (ε : Env) : Option (List D) → SO
  | none => .bad
  | some _ => (f ε).toS (remK i)
@[simp] theorem remO_ap {i : Nat} {ε : Env} {ds : List D} : remO i ε (some ds) = .nx (ε.set i (.ow (.lst ds))) := rfl
@[simp] theorem remK_ap {i : Nat} {d : D} {ε : Env} : remK i d ε = remO i ε ((oL ε[i]?).bind fun ds => remD ds d) := rfl
@[simp] theorem rem0_ap {i : Nat} {f : Env → Out D} {ε : Env} {ds : List D} : rem0 i f ε (some ds) = (f ε).toS (remK i) := rfl
@[simp] theorem remF_ap {i : Nat} {f : Env → Out D} {ε : Env} : remF i f ε = rem0 i f ε (oL ε[i]?) := by
  unfold remF
  rw [ownL_ap]
  cases oL ε[i]? with
  | none => rfl
  | some d =>
    show (f ε).toS _ = (f ε).toS _
    congr 1
def listK : List D → Env → Out Sl := fun ds ε1 => ownL1 (listD ds) ε1
@[simp] theorem listM_ap {fa : Env → Out (List D)} {ε : Env} : listM fa ε = (fa ε).bnd listK := rfl
@[simp] theorem listK_ap {ds : List D} {ε : Env} : listK ds ε = ownL1 (listD ds) ε := rfl
@[simp] theorem ownL1_ap {xs : List D} {ε : Env} : ownL1 (some (.lst xs)) ε = .ok (.ow (.lst xs)) ε := rfl
end
end ML
end
section
set_option Elab.async false
set_option linter.all false
set_option maxRecDepth 100000
set_option autoImplicit false
namespace ML
open PySem (Str PyData argBest)
open L2
def lexB {α : Type} [DecidableEq α] (lt : α → α → Bool) : List α → List α → Bool
  | [], [] => false
  | [], _ :: _ => true
  | _ :: _, [] => false
  | a :: as, b :: bs => if a = b then lexB lt as bs else lt a b
section
variable {α : Type} [DecidableEq α] {f : α → D} {lt : α → α → Bool} {k : Nat}
theorem NOrd.alikeAll (h : NOrd f lt) : ∀ as bs : List α, PySem.W.alikeAll (toPyL (as.map f)) (toPyL (bs.map f)) = true
  | [], [] => by simp [toPyL, PySem.W.alikeAll]
  | [], _ :: _ => by simp [toPyL, PySem.W.alikeAll]
  | _ :: _, [] => by simp [toPyL, PySem.W.alikeAll]
  | a :: as, b :: bs => by simp only [List.map_cons, toPyL, PySem.W.alikeAll, h.al, h.alikeAll as bs, Bool.and_self]
theorem NOrd.rows (h : NOrd f lt) (n : Nice f k) : ∀ as bs : List α, PyProof.Rows.lexLt PyProof.Rows.itemOrd (PySem.W.keyToksAll (toPyL (as.map f))) (PySem.W.keyToksAll (toPyL (bs.map f))) = lexB lt as bs
  | [], [] => by
    rw [← PySem.W.firstLt_toks _ _ (h.alikeAll [] [])]
    rfl
  | [], b :: bs => by
    rw [← PySem.W.firstLt_toks _ _ (h.alikeAll [] (b :: bs))]
    simp [toPyL, PySem.SeqAt.firstLt, lexB]
  | a :: as, [] => by
    rw [← PySem.W.firstLt_toks _ _ (h.alikeAll (a :: as) [])]
    simp [toPyL, PySem.SeqAt.firstLt, lexB]
  | a :: as, b :: bs => by
    simp only [List.map_cons, toPyL]
    rw [PySem.W.dataLt_cons (h.al a b), h.lt, h.rows n as bs, lexB]
    by_cases e : a = b
    · rw [if_pos e, if_pos ((n.eq a b).2 e)]
    · rw [if_neg e, if_neg (fun q => e ((n.eq a b).1 q))]
theorem NOrd.lst (h : NOrd f lt) (n : Nice f k) : NOrd (fun xs : List α => D.lst (xs.map f)) (lexB lt) where
  al := fun a b => by simp only [toPy, PySem.W.alike]; exact h.alikeAll a b
  lt := fun a b => by simp only [toPy]; rw [PySem.W.dataLt_list]; exact h.rows n a b
theorem argBest_min {lt : α → α → Bool} {xs : List α} (bt : Nat → Nat → Bool) (hb : ∀ i j (hi : i < xs.length) (hj : j < xs.length), bt i j = lt xs[i] xs[j]) {R : α} {r : Nat} (hr : r < xs.length) (er : xs[r] = R)
    (h1 : ∀ x ∈ xs, x ≠ R → lt R x = true) (h2 : ∀ x ∈ xs, lt x R = false) : ∀ n, (n < xs.length → argBest bt n ≤ n) ∧ (r ≤ n → (h : n < xs.length) → xs[argBest bt n]? = some R)
  | 0 => ⟨fun _ => Nat.le_refl _, fun h hn => by
    have : r = 0 := by omega
    subst this
    show xs[0]? = _
    rw [List.getElem?_eq_getElem hn, er]⟩
  | n + 1 => by
    obtain ⟨i1, i2⟩ := argBest_min bt hb hr er h1 h2 n
    have hle : n + 1 < xs.length → argBest bt (n + 1) ≤ n + 1 := fun hn => by
      have := i1 (by omega)
      rw [argBest]
      split <;> omega
    refine ⟨hle, fun h hn => ?_⟩
    have hb1 := i1 (by omega)
    rw [argBest]
    by_cases e : r ≤ n
    · have q := i2 e (by omega)
      have hl : argBest bt n < xs.length := by omega
      rw [List.getElem?_eq_getElem hl] at q
      have q := Option.some.inj q
      have : bt (n + 1) (argBest bt n) = false := by rw [hb _ _ hn hl, q]; exact h2 _ (List.getElem_mem hn)
      rw [this]
      simp only [Bool.false_eq_true, if_false]
      rw [List.getElem?_eq_getElem hl, q]
    · have : r = n + 1 := by omega
      subst this
      have hl : argBest bt n < xs.length := by omega
      by_cases c : xs[argBest bt n] = R
      · have : bt (n + 1) (argBest bt n) = false := by rw [hb _ _ hn hl, c]; exact h2 _ (List.getElem_mem hn)
        rw [this]
        simp only [Bool.false_eq_true, if_false]
        rw [List.getElem?_eq_getElem hl, c]
      · have : bt (n + 1) (argBest bt n) = true := by rw [hb _ _ hn hl, er]; exact h1 _ (List.getElem_mem hl) c
        rw [this]
        simp only [if_true]
        rw [List.getElem?_eq_getElem hn, er]
theorem toPyL_get (xs : List α) (i : Nat) (hi : i < xs.length) : (toPyL (xs.map f)).getD i .none = toPy (f xs[i]) := by
  induction xs generalizing i with
  | nil => cases hi
  | cons x xs ih =>
    cases i with
    | zero => simp [toPyL]
    | succ i =>
      have := ih i (by simpa using hi)
      simpa [toPyL] using this
theorem NOrd.min (h : NOrd f lt) (n : Nice f k) (hk : k ≤ 64) {xs : List α} (ht : (∀ x ∈ xs, topK (f x) = true) ∨ ∀ x ∈ xs, topN (f x) = true) {R : α} (hR : R ∈ xs) (h1 : ∀ x ∈ xs, x ≠ R → lt R x = true) : minD [.lst (xs.map f)] = some (f R) := by
  have L := h.lin n
  obtain ⟨r, hr, er⟩ := List.mem_iff_getElem.1 hR
  have hs := sortOk_of h n hk ht
  have h2 : ∀ x ∈ xs, lt x R = false := fun x hx => by
    by_cases e : x = R
    · subst e
      have := L.tot x x
      simp only [Bool.or_self, leOf, Bool.not_eq_true'] at this
      exact this
    · have a := h1 x hx e
      have := L.an x R
      cases q : lt x R with
      | false => rfl
      | true =>
        have t1 := L.tot x R
        simp [leOf, a, q] at t1
  have hl : 0 < xs.length := by omega
  obtain ⟨-, a2⟩ := argBest_min (lt := lt) (xs := xs) (MH.ltAt (toPyL (xs.map f))) (fun i j hi hj => by rw [MH.ltAt, toPyL_get xs i hi, toPyL_get xs j hj, h.lt]) hr er h1 h2 (xs.length - 1)
  have a3 := a2 (by omega) (by omega)
  show (if sortOk (xs.map f) = true ∧ 0 < (xs.map f).length then minL (xs.map f) else none) = _
  rw [if_pos ⟨hs, by simpa using hl⟩, minL, List.length_map, List.getElem?_map, a3]
  rfl
end
end ML
end
section
set_option Elab.async false
set_option linter.all false
set_option maxRecDepth 100000
set_option autoImplicit false
namespace ML
open PySem (Str PyData)
open L2
section
variable {ε : Env}
def extK2 (i : Nat) (es : List D) (ε : Env) : Option (List D) → SO
  | some ds => if ds.length + es.length ≤ 100000 then .nx (ε.set i (.ow (.lst (ds ++ es)))) else .bad
  | none => .bad
@[simp] theorem extK2_some {i : Nat} {es ds : List D} : extK2 i es ε (some ds) = if ds.length + es.length ≤ 100000 then .nx (ε.set i (.ow (.lst (ds ++ es)))) else .bad := rfl
def extK (i : Nat) : D → Env → SO := fun d ε => match d with
  | .lst es => extK2 i es ε (oL ε[i]?)
  | _ => .bad
@[simp] theorem extK_lst {i : Nat} {es : List D} : extK i (.lst es) ε = extK2 i es ε (oL ε[i]?) := rfl
def ext0 (i : Nat) (f : Env → Out D) (ε : Env) : Option (List D) → SO
  | none => .bad
  | some _ => (f ε).toS (extK i)
@[simp] theorem ext0_some {i : Nat} {f : Env → Out D} {ds : List D} : ext0 i f ε (some ds) = (f ε).toS (extK i) := rfl
@[simp] theorem extF_ap {i : Nat} {f : Env → Out D} : extF i f ε = ext0 i f ε (oL ε[i]?) := by
  unfold extF
  rw [ownL_ap]
  cases oL ε[i]? with
  | none => rfl
  | some ds =>
    show (f ε).toS _ = (f ε).toS _
    cases f ε with
    | ok d ε1 =>
      simp only [Out.toS]
      rw [ownL_ap]
      cases d with
      | lst es => rw [extK_lst]; cases oL ε1[i]? <;> rfl
      | _ => rfl
    | ex x ε1 => rfl
    | bad => rfl
def forO0 (i : Nat) (gf : D → Env → Option Env) (F : Env → SO) (ε : Env) : Option (List D) → SO
  | some ds => SO.back i (.lst ds) (forF gf F ds (ε.set i .no))
  | none => .bad
@[simp] theorem forO0_some {i : Nat} {gf : D → Env → Option Env} {F : Env → SO} {ds : List D} : forO0 i gf F ε (some ds) = SO.back i (.lst ds) (forF gf F ds (ε.set i .no)) := rfl
end
end ML
end
section
set_option Elab.async false
set_option linter.all false
set_option maxRecDepth 100000
set_option autoImplicit false
namespace ML
open PySem (Str PyData)
open L2
section
variable {ε : Env} {α β : Type} {x : Xn} {d : D}
@[simp] theorem bnd_ex {k : α → Env → Out β} : (Out.ex x ε : Out α).bnd k = .ex x ε := rfl
@[simp] theorem toS_ex {k : α → Env → SO} : (Out.ex x ε : Out α).toS k = .ex x ε := rfl
@[simp] theorem thn_ex {F : Env → SO} : (SO.ex x ε).thn F = .ex x ε := rfl
@[simp] theorem finX_nx : (SO.nx ε).finX = .ret .non := rfl
@[simp] theorem finX_rt : (SO.rt d ε).finX = .ret d := rfl
@[simp] theorem finX_ex : (SO.ex x ε).finX = .exn x := rfl
@[simp] theorem callO_exn : callO (.exn x) ε = .ex x ε := rfl
@[simp] theorem raise0F_ap {c : Nat} : raise0F c ε = .ex ⟨c, [], []⟩ ε := rfl
def raise1K (c : Nat) (g : Str) : List D → Env → SO := fun ds ε1 => match ds with
  | [d] => .ex ⟨c, [g], [d]⟩ ε1
  | _ => .bad
@[simp] theorem raise1F_ap {c : Nat} {g : Str} {fa : Env → Out (List D)} : raise1F c g fa ε = (fa ε).toS (raise1K c g) := rfl
@[simp] theorem raise1K_ap {c : Nat} {g : Str} : raise1K c g [d] ε = .ex ⟨c, [g], [d]⟩ ε := rfl
def tryK (m : List Nat) (ks : List ClaM) : SO → SO
  | .ex x ε1 => if x.c ∈ m ∧ noXn ε1 = true then claS ks x ε1 else .bad
  | o => o
@[simp] theorem tryF_ap {m : List Nat} {ks : List ClaM} {Fb : Env → SO} : tryF m ks Fb ε = tryK m ks (Fb ε) := by
  unfold tryF tryK
  cases Fb ε <;> rfl
@[simp] theorem tryK_ex {m : List Nat} {ks : List ClaM} : tryK m ks (.ex x ε) = if x.c ∈ m ∧ noXn ε = true then claS ks x ε else .bad := rfl
@[simp] theorem tryK_nx {m : List Nat} {ks : List ClaM} : tryK m ks (.nx ε) = .nx ε := rfl
@[simp] theorem tryK_rt {m : List Nat} {ks : List ClaM} : tryK m ks (.rt d ε) = .rt d ε := rfl
@[simp] theorem claS_cons {t : Nat → Bool} {i : Option Nat} {F : Env → SO} {r : List ClaM} : claS (⟨t, i, F⟩ :: r) x ε = if t x.c = true then leaveS i (F (onE i x ε)) else claS r x ε := rfl
@[simp] theorem onE_some {i : Nat} : onE (some i) x ε = ε.set i (.xn x) := rfl
@[simp] theorem onE_none : onE none x ε = ε := rfl
@[simp] theorem offE_some {i : Nat} : offE (some i) ε = ε.set i .no := rfl
@[simp] theorem offE_none : offE none ε = ε := rfl
@[simp] theorem leaveS_rt {i : Option Nat} : leaveS i (.rt d ε) = if noXn (offE i ε) = true then .rt d (offE i ε) else .bad := rfl
@[simp] theorem leaveS_nx {i : Option Nat} : leaveS i (.nx ε) = if noXn (offE i ε) = true then .nx (offE i ε) else .bad := rfl
@[simp] theorem noXn_nil : noXn [] = true := rfl
@[simp] theorem noXn_fz : noXn (.fz d :: ε) = noXn ε := rfl
@[simp] theorem noXn_ow : noXn (.ow d :: ε) = noXn ε := rfl
@[simp] theorem noXn_no : noXn (.no :: ε) = noXn ε := rfl
def xnO : Option Sl → Option Xn
  | some (.xn x) => some x
  | _ => none
@[simp] theorem xnO_xn : xnO (some (.xn x)) = some x := rfl
def xfld0 (n : Nat) (g : Str) (ε : Env) : Option Xn → Out D
  | some x => Out.opt (xfldD n g x) ε
  | none => .bad
@[simp] theorem xfld0_some {n : Nat} {g : Str} : xfld0 n g ε (some x) = Out.opt (xfldD n g x) ε := rfl
@[simp] theorem xfldF_ap {n i : Nat} {g : Str} : xfldF n i g ε = xfld0 n g ε (xnO ε[i]?) := by
  unfold xfldF xnAt
  generalize ε[i]? = o
  cases o with
  | none => rfl
  | some s => cases s <;> rfl
@[simp] theorem revD_tup {xs : List D} : revD (.tup xs) = some (.tup xs.reverse) := rfl
def addMK2 (x : D) : D → Env → Out Sl := fun y ε2 => match x, y with
  | .lst xs, .lst ys => if xs.length + ys.length ≤ 100000 then .ok (.ow (.lst (xs ++ ys))) ε2 else .bad
  | _, _ => .bad
def addMK (fb : Env → Out D) : D → Env → Out Sl := fun x ε1 => (fb ε1).bnd (addMK2 x)
@[simp] theorem addM_ap {fa fb : Env → Out D} : addM fa fb ε = (fa ε).bnd (addMK fb) := rfl
@[simp] theorem addMK_ap {fb : Env → Out D} : addMK fb d ε = (fb ε).bnd (addMK2 d) := rfl
@[simp] theorem addMK2_ap {xs ys : List D} : addMK2 (.lst xs) (.lst ys) ε = if xs.length + ys.length ≤ 100000 then .ok (.ow (.lst (xs ++ ys))) ε else .bad := rfl
def mulMK2 (x : D) : D → Env → Out Sl := fun y ε2 => match x, y with
  | .lst xs, .int n => if -1000 ≤ n ∧ n ≤ 100000 ∧ xs.length * n.toNat ≤ 100000 then .ok (.ow (.lst (List.replicate n.toNat xs).flatten)) ε2 else .bad
  | _, _ => .bad
def mulMK (fb : Env → Out D) : D → Env → Out Sl := fun x ε1 => (fb ε1).bnd (mulMK2 x)
@[simp] theorem mulM_ap {fa fb : Env → Out D} : mulM fa fb ε = (fa ε).bnd (mulMK fb) := rfl
@[simp] theorem mulMK_ap {fb : Env → Out D} : mulMK fb d ε = (fb ε).bnd (mulMK2 d) := rfl
@[simp] theorem mulMK2_ap {xs : List D} {n : Int} : mulMK2 (.lst xs) (.int n) ε = if -1000 ≤ n ∧ n ≤ 100000 ∧ xs.length * n.toNat ≤ 100000 then .ok (.ow (.lst (List.replicate n.toNat xs).flatten)) ε else .bad := rfl
end
end ML
end
section
set_option Elab.async false
set_option linter.all false
set_option maxRecDepth 100000
set_option autoImplicit false
namespace ML
open PySem (Str PyData)
open L2
section
variable {ε : Env} {α β : Type} {d : D}
def asgHK (gf : D → Env → SO) : D → Env → SO := fun d ε1 => (gf d ε1).thnH .nx
@[simp] theorem asgH_ap {f : Env → Out D} {gf : D → Env → SO} : asgH f gf ε = (f ε).toS (asgHK gf) := rfl
@[simp] theorem asgHK_ap {gf : D → Env → SO} : asgHK gf d ε = (gf d ε).thnH .nx := rfl
@[simp] theorem thnH_nx {F : Env → SO} : (SO.nx ε).thnH F = F ε := rfl
@[simp] theorem gtupH_ap {n : Nat} {gs : List D → Env → SO} {ds : List D} : gtupH n gs (.tup ds) ε = if ds.length = n then gs ds ε else .bad := rfl
@[simp] theorem gconsH_ap {gf : D → Env → SO} {gs : List D → Env → SO} {ds : List D} : gconsH gf gs (d :: ds) ε = (gf d ε).thnH (gs ds) := rfl
@[simp] theorem gnilH_ap : gnilH [] ε = .nx ε := rfl
@[simp] theorem gnH_ap {i : Nat} : gnH i d ε = .nx (ε.set i (.fz d)) := rfl
@[simp] theorem dsubH_ap {i : Nat} {fk : Env → Out D} : dsubH i fk d ε = dput1 i fk d ε (oAt ε[i]?) := by
  unfold dsubH
  rw [ownAt_ap]
  cases oAt ε[i]? with
  | none => rfl
  | some x =>
    show (fk ε).toS _ = (fk ε).toS _
    congr 1
@[simp] theorem subH_ap {i : Nat} {fk : Env → Out D} : subH i fk d ε = setI1 i fk d ε (oL ε[i]?) := by
  unfold subH
  rw [ownL_ap]
  cases oL ε[i]? with
  | none => rfl
  | some x =>
    show (fk ε).toS _ = (fk ε).toS _
    congr 1
def augK (i : Nat) (f : Int → Int → Int) (x : Int) : D → Env → SO := fun y ε1 => match y with
  | .int y => .nx (ε1.set i (.fz (.int (f x y))))
  | _ => .bad
@[simp] theorem augK_ap {i : Nat} {f : Int → Int → Int} {x y : Int} : augK i f x (.int y) ε = .nx (ε.set i (.fz (.int (f x y)))) := rfl
def aug0 (i : Nat) (fe : Env → Out D) (f : Int → Int → Int) (ε : Env) : Option Sl → SO
  | some (.fz (.int x)) => (fe ε).toS (augK i f x)
  | _ => .bad
@[simp] theorem aug0_ap {i : Nat} {fe : Env → Out D} {f : Int → Int → Int} {x : Int} : aug0 i fe f ε (some (.fz (.int x))) = (fe ε).toS (augK i f x) := rfl
@[simp] theorem augF_ap {i : Nat} {fe : Env → Out D} {f : Int → Int → Int} : augF i fe f ε = aug0 i fe f ε ε[i]? := by
  unfold augF aug0
  generalize ε[i]? = o
  cases o with
  | none => rfl
  | some s =>
    cases s with
    | fz d => cases d <;> rfl
    | _ => rfl
def augI3 (i : Nat) (f : Int → Int → Int) (n : Nat) (x : Int) (ε2 : Env) : D → Option (List D) → SO
  | .int y, some es => if n < es.length then .nx (ε2.set i (.ow (.lst (es.set n (.int (f x y)))))) else .bad
  | _, _ => .bad
@[simp] theorem augI3_ap {i n : Nat} {f : Int → Int → Int} {x y : Int} {es : List D} : augI3 i f n x ε (.int y) (some es) = if n < es.length then .nx (ε.set i (.ow (.lst (es.set n (.int (f x y)))))) else .bad := rfl
def augIK2 (i : Nat) (f : Int → Int → Int) (n : Nat) (x : Int) : D → Env → SO := fun y ε2 => augI3 i f n x ε2 y (oL ε2[i]?)
@[simp] theorem augIK2_ap {i n : Nat} {f : Int → Int → Int} {x : Int} : augIK2 i f n x d ε = augI3 i f n x ε d (oL ε[i]?) := rfl
def augI2 (i : Nat) (fe : Env → Out D) (f : Int → Int → Int) (n : Nat) (ε : Env) : Option D → SO
  | some (.int x) => (fe ε).toS (augIK2 i f n x)
  | _ => .bad
@[simp] theorem augI2_ap {i n : Nat} {fe : Env → Out D} {f : Int → Int → Int} {x : Int} : augI2 i fe f n ε (some (.int x)) = (fe ε).toS (augIK2 i f n x) := rfl
def augI1 (i : Nat) (fe : Env → Out D) (f : Int → Int → Int) (ε : Env) : D → Option (List D) → SO
  | .int (.ofNat n), some ds => augI2 i fe f n ε ds[n]?
  | _, _ => .bad
@[simp] theorem augI1_ap {i n : Nat} {fe : Env → Out D} {f : Int → Int → Int} {ds : List D} : augI1 i fe f ε (.int (n : Int)) (some ds) = augI2 i fe f n ε ds[n]? := rfl
def augIK (i : Nat) (fe : Env → Out D) (f : Int → Int → Int) : D → Env → SO := fun k ε1 => augI1 i fe f ε1 k (oL ε1[i]?)
@[simp] theorem augIK_ap {i : Nat} {fe : Env → Out D} {f : Int → Int → Int} : augIK i fe f d ε = augI1 i fe f ε d (oL ε[i]?) := rfl
def augI0 (i : Nat) (fk fe : Env → Out D) (f : Int → Int → Int) (ε : Env) : Option (List D) → SO
  | none => .bad
  | some _ => (fk ε).toS (augIK i fe f)
@[simp] theorem augI0_ap {i : Nat} {fk fe : Env → Out D} {f : Int → Int → Int} {ds : List D} : augI0 i fk fe f ε (some ds) = (fk ε).toS (augIK i fe f) := rfl
@[simp] theorem augI_ap {i : Nat} {fk fe : Env → Out D} {f : Int → Int → Int} : augI i fk fe f ε = augI0 i fk fe f ε (oL ε[i]?) := by
  unfold augI
  rw [ownL_ap]
  cases oL ε[i]? with
  | none => rfl
  | some ds =>
    show (fk ε).toS _ = (fk ε).toS _
    cases fk ε with
    | bad => rfl
    | ex x ε1 => rfl
    | ok k ε1 =>
      simp only [Out.toS, augIK_ap]
      rw [ownL_ap]
      cases k with
      | int k =>
        cases k with
        | negSucc n => cases oL ε1[i]? <;> rfl
        | ofNat n =>
          cases oL ε1[i]? with
          | none => rfl
          | some ds =>
            show _ = augI2 i fe f n ε1 ds[n]?
            unfold augI2
            simp only
            cases ds[n]? with
            | none => rfl
            | some x =>
              cases x with
              | int x =>
                simp only
                congr 1
              | _ => rfl
      | _ => cases oL ε1[i]? <;> rfl
def zipK : List D → Env → Out (List D) := fun ds ε1 => match ds with
  | [d, e] => Out.opt (zipItems d e) ε1
  | _ => .bad
@[simp] theorem zipF_ap {fa : Env → Out (List D)} : zipF fa ε = (fa ε).bnd zipK := rfl
@[simp] theorem zipK_ap {e : D} : zipK [d, e] ε = Out.opt (zipItems d e) ε := rfl
@[simp] theorem kdictD_str {ps : List (Str × Str)} {z : Str} : kdictD ps (.str z) = (ps.lookup z).map D.str := rfl
def dcK (vs : List Nat) (gf : D → Env → Option Env) (tf : Env → Out Bool) (kf ef : Env → Out D) : List D → Env → Out Sl := fun ds ε1 => (dcL vs gf tf kf ef ds [] [] (wipeE ε1 vs)).bnd mkD
@[simp] theorem dcM_ap {vs : List Nat} {fi : Env → Out (List D)} {gf : D → Env → Option Env} {tf : Env → Out Bool} {kf ef : Env → Out D} : dcM vs fi gf tf kf ef ε = (fi ε).bnd (dcK vs gf tf kf ef) := rfl
@[simp] theorem dcK_ap {vs : List Nat} {gf : D → Env → Option Env} {tf : Env → Out Bool} {kf ef : Env → Out D} {ds : List D} : dcK vs gf tf kf ef ds ε = (dcL vs gf tf kf ef ds [] [] (wipeE ε vs)).bnd mkD := rfl
@[simp] theorem mkD_ap {ks : List Key} {xs : List D} : mkD (ks, xs) ε = .ok (.ow (.dk ks xs)) ε := rfl
@[simp] theorem anilF_ap : anilF ε = .ok [] ε := rfl
def aconsK2 (x : D) : List Arg → Env → Out (List Arg) := fun xs ε2 => .ok (.d x :: xs) ε2
def aconsK (fr : Env → Out (List Arg)) : D → Env → Out (List Arg) := fun x ε1 => (fr ε1).bnd (aconsK2 x)
@[simp] theorem aconsF_ap {fa : Env → Out D} {fr : Env → Out (List Arg)} : aconsF fa fr ε = (fa ε).bnd (aconsK fr) := rfl
@[simp] theorem aconsK_ap {fr : Env → Out (List Arg)} : aconsK fr d ε = (fr ε).bnd (aconsK2 d) := rfl
@[simp] theorem aconsK2_ap {xs : List Arg} : aconsK2 d xs ε = .ok (.d d :: xs) ε := rfl
def alendK (i : Nat) : List Arg → Env → Out (List Arg) := fun xs ε2 => .ok (.s i :: xs) ε2
def alend0 (i : Nat) (fr : Env → Out (List Arg)) (ε : Env) : Option (List D) → Out (List Arg)
  | none => .bad
  | some _ => (fr ε).bnd (alendK i)
@[simp] theorem alend0_ap {i : Nat} {fr : Env → Out (List Arg)} {ds : List D} : alend0 i fr ε (some ds) = (fr ε).bnd (alendK i) := rfl
@[simp] theorem alendK_ap {i : Nat} {xs : List Arg} : alendK i xs ε = .ok (.s i :: xs) ε := rfl
@[simp] theorem alendF_ap {i : Nat} {fr : Env → Out (List Arg)} : alendF i fr ε = alend0 i fr ε (oL ε[i]?) := by
  unfold alendF
  rw [ownL_ap]
  cases oL ε[i]? <;> rfl
@[simp] theorem argsD_nil : argsD ε [] = some [] := rfl
@[simp] theorem argsD_d {as : List Arg} : argsD ε (.d d :: as) = (argsD ε as).map fun ds => d :: ds := rfl
@[simp] theorem argsD_s {i : Nat} {as : List Arg} : argsD ε (.s i :: as) = ((oL ε[i]?).map D.lst).bind fun d => (argsD ε as).map fun ds => d :: ds := by
  simp only [argsD, argD, ownL_ap]
def callLK2 (n : Nat) (F : List D → Rt) (ε : Env) : Option (List D) → Out D
  | some ds => if ds.length = n then callLO (F ds) ε else .bad
  | none => .bad
@[simp] theorem callLK2_ap {n : Nat} {F : List D → Rt} {ds : List D} : callLK2 n F ε (some ds) = if ds.length = n then callLO (F ds) ε else .bad := rfl
def callLK (n : Nat) (F : List D → Rt) : List Arg → Env → Out D := fun as ε1 => callLK2 n F ε1 (argsD ε1 as)
@[simp] theorem callLK_ap {n : Nat} {F : List D → Rt} {as : List Arg} : callLK n F as ε = callLK2 n F ε (argsD ε as) := rfl
@[simp] theorem callLF_ap {n : Nat} {fa : Env → Out (List Arg)} {F : List D → Rt} : callLF n fa F ε = (fa ε).bnd (callLK n F) := by
  unfold callLF
  congr 1
@[simp] theorem callLO_ap {d : D} : callLO (.ret d) ε = if noLst d = true then .ok d ε else .bad := rfl
@[simp] theorem map_some' {x : α} {f : α → β} : Option.map f (some x) = some (f x) := rfl
end
end ML
end
section
set_option Elab.async false
set_option linter.all false
set_option maxRecDepth 100000
set_option autoImplicit false
namespace ML
open PySem (Str PyData)
open L2
section
variable {ds : List D}
@[simp] theorem sumTD_lst : sumTD [.lst ds] = sumD [.lst ds] := rfl
@[simp] theorem maxTD_lst : maxTD [.lst ds] = ML.maxD [.lst ds] := rfl
@[simp] theorem minTD_lst : minTD [.lst ds] = minD [.lst ds] := rfl
end
end ML
end
section
set_option Elab.async false
set_option linter.all false
set_option maxRecDepth 100000
set_option autoImplicit false
namespace ML
open PySem (Str PyData)
open L2
section
variable {ε : Env} {d : D}
def cntK2 (ds : List D) : D → Env → Out D := fun k ε2 => Out.opt (cntD (.lst ds) k) ε2
def cntK (g : Env → Out D) : D → Env → Out D := fun d ε1 => match d with
  | .lst ds => (g ε1).bnd (cntK2 ds)
  | _ => .bad
@[simp] theorem cntF_ap {f g : Env → Out D} : cntF f g ε = (f ε).bnd (cntK g) := rfl
@[simp] theorem cntK_ap {g : Env → Out D} {ds : List D} : cntK g (.lst ds) ε = (g ε).bnd (cntK2 ds) := rfl
@[simp] theorem cntK2_ap {ds : List D} : cntK2 ds d ε = Out.opt (cntD (.lst ds) d) ε := rfl
def dget2K3 (d k : D) : D → Env → Out D := fun z ε3 => Out.opt (dget2E d k z) ε3
def dget2K2 (d : D) (fx : Env → Out D) : D → Env → Out D := fun k ε2 => (fx ε2).bnd (dget2K3 d k)
def dget2K (fk fx : Env → Out D) : D → Env → Out D := fun d ε1 => match d with
  | .dk ks xs => (fk ε1).bnd (dget2K2 (.dk ks xs) fx)
  | .dt ks xs => (fk ε1).bnd (dget2K2 (.dt ks xs) fx)
  | _ => .bad
@[simp] theorem dget2EF_ap {f fk fx : Env → Out D} : dget2EF f fk fx ε = (f ε).bnd (dget2K fk fx) := by
  unfold dget2EF
  congr 1
@[simp] theorem dget2K_dk {fk fx : Env → Out D} {ks : List Key} {xs : List D} : dget2K fk fx (.dk ks xs) ε = (fk ε).bnd (dget2K2 (.dk ks xs) fx) := rfl
@[simp] theorem dget2K2_ap {e : D} {fx : Env → Out D} : dget2K2 d fx e ε = (fx ε).bnd (dget2K3 d e) := rfl
@[simp] theorem dget2K3_ap {k z : D} : dget2K3 d k z ε = Out.opt (dget2E d k z) ε := rfl
end
end ML
end
section
set_option Elab.async false
set_option linter.all false
set_option maxRecDepth 100000
set_option autoImplicit false
namespace ML
open PySem (Str PyData)
open L2
section
variable {ε : Env} {d e : D} {x : Xn}
def meth0 (n i c : Nat) (mn : Str) (fa : Env → Out (List D)) (F : D → List D → RtM) (ε : Env) : Option D → Out D
  | some (.obj c' fs _) => if c' = c ∧ mn ∉ fs then (fa ε).bnd (callMK n i F) else .bad
  | _ => .bad
theorem methMF_ap {n i c : Nat} {mn : Str} {fa : Env → Out (List D)} {F : D → List D → RtM} : methMF n i c mn fa F ε = meth0 n i c mn fa F ε (oAt ε[i]?) := by
  unfold methMF
  have hk : (fun (es : List D) (ε1 : Env) => if es.length = n then (match ownAt i ε1 with
    | none => (Out.bad : Out D)
    | some d => match F d es with
      | .ret r d' => .ok r (ε1.set i (.ow d'))
      | .bad => .bad) else .bad) = callMK n i F := by
    funext es ε1
    unfold callMK
    rw [ownAt_ap]
    cases oAt ε1[i]? with
    | none => rfl
    | some d =>
      show (if es.length = n then (match F d es with
        | .ret r d' => Out.ok r (ε1.set i (.ow d'))
        | .bad => .bad) else _) = if es.length = n then callMR i ε1 (F d es) else _
      cases F d es <;> rfl
  rw [ownAt_ap]
  cases q : oAt ε[i]? with
  | none => rfl
  | some d =>
    cases d <;> rfl
theorem meth0_ob {n i c c' : Nat} {mn : Str} {fs : List Str} {ds : List D} {fa : Env → Out (List D)} {F : D → List D → RtM} : meth0 n i c mn fa F ε (some (.obj c' fs ds)) = if c' = c ∧ mn ∉ fs then (fa ε).bnd (callMK n i F) else .bad := rfl
end
end ML
namespace ML
open PySem (Str PyData)
open L2
section
variable {ε ε1 ε2 : Env} {d d' r : D}
theorem dropF_ok {f : Env → Out D} (h : f ε = .ok d ε1) : dropF f ε = .nx ε1 := by unfold dropF; rw [h]; rfl
theorem meth_at {n i c : Nat} {mn : Str} {fa : Env → Out (List D)} {F : D → List D → RtM} {fs : List Str} {ds es : List D} (h : ε[i]? = some (.ow (.obj c fs ds))) (hm : mn ∉ fs) (ha : fa ε = .ok es ε1) (hn : es.length = n) (h2 : ε1[i]? = some (.ow d)) (hF : F d es = .ret r d') :
    methMF n i c mn fa F ε = .ok r (ε1.set i (.ow d')) := by
  rw [methMF_ap, h, oAt_ow, meth0_ob, if_pos ⟨rfl, hm⟩, ha]
  show callMK n i F es ε1 = _
  rw [callMK_ap, if_pos hn, h2, oAt_ow, callMK2_some, hF]; rfl
theorem forF_nx {gf : D → Env → Option Env} {F : Env → SO} {ds : List D} (h1 : gf d ε = some ε1) (h2 : F ε1 = .nx ε2) : forF gf F (d :: ds) ε = forF gf F ds ε2 := by
  conv => lhs; unfold forF
  simp only [h1, h2]
theorem forS_ok {fi : Env → Out (List D)} {gf : D → Env → Option Env} {F : Env → SO} {ds : List D} (h : fi ε = .ok ds ε1) : forS fi gf F ε = forF gf F ds ε1 := by unfold forS; rw [h]; rfl
end
end ML
end
section
set_option Elab.async false
set_option linter.all false
set_option maxRecDepth 100000
set_option maxHeartbeats 4000000
set_option autoImplicit false
namespace LW
open PySem PySem.Spec PyProof.Rows L2 ML
def top (i : Nat) : Stmt := PySem.Challenge.pw_wovenframes_k80_desks_refuse.main.body.getD i (.Pass ⟨0, 0, 0, 0⟩)
abbrev s_need_board : Stmt := top 18
abbrev s_Board___len__ : Stmt := inClass (top 17) 4
abbrev s_Board_rows : Stmt := inClass (top 17) 2
abbrev s_all_steps : Stmt := top 21
abbrev s_strengths_of : Stmt := top 28
abbrev s_Board_columns : Stmt := inClass (top 17) 3
abbrev s_Desk___init__ : Stmt := inClass (top 29) 0
abbrev s_need_board_xBadBoard : Stmt := top 18
abbrev s_Desk___init___xBadBoard : Stmt := inClass (top 29) 0
abbrev s__law_made : Stmt := top 33
abbrev s_is_line : Stmt := top 16
abbrev s_Board___init__ : Stmt := inClass (top 17) 0
abbrev s_is_from : Stmt := top 15
abbrev s_is_thread : Stmt := top 19
abbrev s_need_thread : Stmt := top 20
abbrev s_Desk_set_state : Stmt := inClass (top 29) 4
abbrev s_Desk_shift : Stmt := inClass (top 29) 8
abbrev s__law_taken : Stmt := top 31
abbrev s_Board_cells : Stmt := inClass (top 17) 1
abbrev s_Desk_own_load : Stmt := inClass (top 29) 2
abbrev s_Desk_own_strengths : Stmt := inClass (top 29) 3
abbrev s_Desk___len__ : Stmt := inClass (top 29) 16
abbrev s_Desk_need_cell_xBadColumnBadRow : Stmt := inClass (top 29) 5
abbrev s_Desk_need_cell : Stmt := inClass (top 29) 5
abbrev s_with_cell_xBadBoardBadColumnBadRowBadSign : Stmt := top 23
abbrev s_with_cell : Stmt := top 23
abbrev s_Desk_put_xBadBoardBadColumnBadRowBadSign : Stmt := inClass (top 29) 6
abbrev s_Desk_put : Stmt := inClass (top 29) 6
abbrev s_Desk_strengthen_xBadColumnBadNumberBadRow : Stmt := inClass (top 29) 7
abbrev s_Desk_strengthen : Stmt := inClass (top 29) 7
abbrev s_need_thread_xBadThread : Stmt := top 20
abbrev s_Desk_shift_xBadNumberBadThreadTooHeavy : Stmt := inClass (top 29) 8
abbrev s__law_deed : Stmt := top 32
abbrev s_Desk_own_board : Stmt := inClass (top 29) 1
abbrev s_Desk_redo : Stmt := inClass (top 29) 12
abbrev s_law : Stmt := top 34
abbrev s_BadBoard___init__ : Stmt := inClass (top 3) 0
abbrev s_BadColumn___init__ : Stmt := inClass (top 6) 0
abbrev s_BadRow___init__ : Stmt := inClass (top 5) 0
abbrev s_BadSign___init__ : Stmt := inClass (top 7) 0
abbrev s_BadThread___init__ : Stmt := inClass (top 8) 0
abbrev uv (w : World) (K : PySem.W.Frag) (C : Addr) : Uv := { K := K, cl := fun n => if n = 1 then He.ga K "Desk" else C, xc := fun n => He.ga K (errN n), w := w }
structure Txt (w : World) (K : PySem.W.Frag) (mg : Str → Option Value) (C : Addr) : Prop where
  d_need_board : ∃ f fd, FunD K "need_board" "need_board" (defArgs s_need_board) (defBody s_need_board) (defScope s_need_board) [] [] f fd ∧ (fun f => mg "need_board" = some (.ref f)) f
  d_Board___len__ : ∃ f fd, FunD K "__len__" "Board.__len__" (defArgs s_Board___len__) (defBody s_Board___len__) (defScope s_Board___len__) [] [] f fd ∧ (fun f => Meth K C "__len__" f) f
  d_Board_rows : ∃ f fd, FunD K "rows" "Board.rows" (defArgs s_Board_rows) (defBody s_Board_rows) (defScope s_Board_rows) [] [] f fd ∧ (fun f => ∃ p, PropOf K C "rows" p f) f
  d_all_steps : ∃ f fd, FunD K "all_steps" "all_steps" (defArgs s_all_steps) (defBody s_all_steps) (defScope s_all_steps) [] [] f fd ∧ (fun f => mg "all_steps" = some (.ref f)) f
  d_strengths_of : ∃ f fd, FunD K "strengths_of" "strengths_of" (defArgs s_strengths_of) (defBody s_strengths_of) (defScope s_strengths_of) [] [] f fd ∧ (fun f => mg "strengths_of" = some (.ref f)) f
  d_Board_columns : ∃ f fd, FunD K "columns" "Board.columns" (defArgs s_Board_columns) (defBody s_Board_columns) (defScope s_Board_columns) [] [] f fd ∧ (fun f => ∃ p, PropOf K C "columns" p f) f
  d_Desk___init__ : ∃ f fd, FunD K "__init__" "Desk.__init__" (defArgs s_Desk___init__) (defBody s_Desk___init__) (defScope s_Desk___init__) [] [] f fd ∧ (fun f => Mk K (He.ga K "Desk") f) f
  d__law_made : ∃ f fd, FunD K "_law_made" "_law_made" (defArgs s__law_made) (defBody s__law_made) (defScope s__law_made) [] [] f fd ∧ (fun f => mg "_law_made" = some (.ref f)) f
  d_is_line : ∃ f fd, FunD K "is_line" "is_line" (defArgs s_is_line) (defBody s_is_line) (defScope s_is_line) [] [] f fd ∧ (fun f => mg "is_line" = some (.ref f)) f
  d_Board___init__ : ∃ f fd, FunD K "__init__" "Board.__init__" (defArgs s_Board___init__) (defBody s_Board___init__) (defScope s_Board___init__) [] [] f fd ∧ (fun f => Mk K C f) f
  d_is_from : ∃ f fd, FunD K "is_from" "is_from" (defArgs s_is_from) (defBody s_is_from) (defScope s_is_from) [] [] f fd ∧ (fun f => mg "is_from" = some (.ref f)) f
  d_is_thread : ∃ f fd, FunD K "is_thread" "is_thread" (defArgs s_is_thread) (defBody s_is_thread) (defScope s_is_thread) [] [] f fd ∧ (fun f => mg "is_thread" = some (.ref f)) f
  d_need_thread : ∃ f fd, FunD K "need_thread" "need_thread" (defArgs s_need_thread) (defBody s_need_thread) (defScope s_need_thread) [] [] f fd ∧ (fun f => mg "need_thread" = some (.ref f)) f
  d_Desk_set_state : ∃ f fd, FunD K "set_state" "Desk.set_state" (defArgs s_Desk_set_state) (defBody s_Desk_set_state) (defScope s_Desk_set_state) [] [] f fd ∧ (fun f => Meth K (He.ga K "Desk") "set_state" f) f
  d_Desk_shift : ∃ f fd, FunD K "shift" "Desk.shift" (defArgs s_Desk_shift) (defBody s_Desk_shift) (defScope s_Desk_shift) [] [] f fd ∧ (fun f => Meth K (He.ga K "Desk") "shift" f) f
  d__law_taken : ∃ f fd, FunD K "_law_taken" "_law_taken" (defArgs s__law_taken) (defBody s__law_taken) (defScope s__law_taken) [] [] f fd ∧ (fun f => mg "_law_taken" = some (.ref f)) f
  d_Board_cells : ∃ f fd, FunD K "cells" "Board.cells" (defArgs s_Board_cells) (defBody s_Board_cells) (defScope s_Board_cells) [] [] f fd ∧ (fun f => ∃ p, PropOf K C "cells" p f) f
  d_Desk_own_load : ∃ f fd, FunD K "own_load" "Desk.own_load" (defArgs s_Desk_own_load) (defBody s_Desk_own_load) (defScope s_Desk_own_load) [] [] f fd ∧ (fun f => ∃ p, PropOf K (He.ga K "Desk") "own_load" p f) f
  d_Desk_own_strengths : ∃ f fd, FunD K "own_strengths" "Desk.own_strengths" (defArgs s_Desk_own_strengths) (defBody s_Desk_own_strengths) (defScope s_Desk_own_strengths) [] [] f fd ∧ (fun f => ∃ p, PropOf K (He.ga K "Desk") "own_strengths" p f) f
  d_Desk___len__ : ∃ f fd, FunD K "__len__" "Desk.__len__" (defArgs s_Desk___len__) (defBody s_Desk___len__) (defScope s_Desk___len__) [] [] f fd ∧ (fun f => Meth K (He.ga K "Desk") "__len__" f) f
  d_Desk_need_cell : ∃ f fd, FunD K "need_cell" "Desk.need_cell" (defArgs s_Desk_need_cell) (defBody s_Desk_need_cell) (defScope s_Desk_need_cell) [] [] f fd ∧ (fun f => Meth K (He.ga K "Desk") "need_cell" f) f
  d_with_cell : ∃ f fd, FunD K "with_cell" "with_cell" (defArgs s_with_cell) (defBody s_with_cell) (defScope s_with_cell) [] [] f fd ∧ (fun f => mg "with_cell" = some (.ref f)) f
  d_Desk_put : ∃ f fd, FunD K "put" "Desk.put" (defArgs s_Desk_put) (defBody s_Desk_put) (defScope s_Desk_put) [] [] f fd ∧ (fun f => Meth K (He.ga K "Desk") "put" f) f
  d_Desk_strengthen : ∃ f fd, FunD K "strengthen" "Desk.strengthen" (defArgs s_Desk_strengthen) (defBody s_Desk_strengthen) (defScope s_Desk_strengthen) [] [] f fd ∧ (fun f => Meth K (He.ga K "Desk") "strengthen" f) f
  d__law_deed : ∃ f fd, FunD K "_law_deed" "_law_deed" (defArgs s__law_deed) (defBody s__law_deed) (defScope s__law_deed) [] [] f fd ∧ (fun f => mg "_law_deed" = some (.ref f)) f
  d_Desk_own_board : ∃ f fd, FunD K "own_board" "Desk.own_board" (defArgs s_Desk_own_board) (defBody s_Desk_own_board) (defScope s_Desk_own_board) [] [] f fd ∧ (fun f => ∃ p, PropOf K (He.ga K "Desk") "own_board" p f) f
  d_Desk_redo : ∃ f fd, FunD K "redo" "Desk.redo" (defArgs s_Desk_redo) (defBody s_Desk_redo) (defScope s_Desk_redo) [] [] f fd ∧ (fun f => Meth K (He.ga K "Desk") "redo" f) f
  d_law : ∃ f fd, FunD K "law" "law" (defArgs s_law) (defBody s_law) (defScope s_law) [] [] f fd ∧ (fun f => mg "law" = some (.ref f)) f
  n_all : mg "all" = none
  n_bool : mg "bool" = none
  n_enumerate : mg "enumerate" = none
  n_int : mg "int" = none
  n_isinstance : mg "isinstance" = none
  n_len : mg "len" = none
  n_list : mg "list" = none
  n_max : mg "max" = none
  n_min : mg "min" = none
  n_sorted : mg "sorted" = none
  n_str : mg "str" = none
  n_tuple : mg "tuple" = none
  c_FIRST_STRENGTH : ∃ t, mg "FIRST_STRENGTH" = some (.int 1 t)
  c_MOST_LINES : ∃ t, mg "MOST_LINES" = some (.int 5 t)
  c_MOST_LOAD : ∃ t, mg "MOST_LOAD" = some (.int 20 t)
  c_MOST_STRENGTH : ∃ t, mg "MOST_STRENGTH" = some (.int 9 t)
  c_SIGNS : ∃ t, mg "SIGNS" = some (.str ".<>x" t)
  x_WovenError : ErrC K mg "WovenError"
  x_BadBoard : ErrC K mg "BadBoard"
  x_BadColumn : ErrC K mg "BadColumn"
  x_BadNumber : ErrC K mg "BadNumber"
  x_BadRow : ErrC K mg "BadRow"
  x_BadSign : ErrC K mg "BadSign"
  x_BadThread : ErrC K mg "BadThread"
  x_TooHeavy : ErrC K mg "TooHeavy"
  o_BadNumber : exc0B K "BadNumber" = true
  o_TooHeavy : exc0B K "TooHeavy" = true
  i_BadBoard : ∃ f fd, FunD K "__init__" "BadBoard.__init__" (defArgs s_BadBoard___init__) (defBody s_BadBoard___init__) (defScope s_BadBoard___init__) [] [] f fd ∧ PySem.W.findIn K (.ref (He.ga K "BadBoard")) "__init__" = some (some (.ref f)) ∧ PySem.W.typeIn K (.ref f) = some (.type "function")
  i_BadColumn : ∃ f fd, FunD K "__init__" "BadColumn.__init__" (defArgs s_BadColumn___init__) (defBody s_BadColumn___init__) (defScope s_BadColumn___init__) [] [] f fd ∧ PySem.W.findIn K (.ref (He.ga K "BadColumn")) "__init__" = some (some (.ref f)) ∧ PySem.W.typeIn K (.ref f) = some (.type "function")
  i_BadRow : ∃ f fd, FunD K "__init__" "BadRow.__init__" (defArgs s_BadRow___init__) (defBody s_BadRow___init__) (defScope s_BadRow___init__) [] [] f fd ∧ PySem.W.findIn K (.ref (He.ga K "BadRow")) "__init__" = some (some (.ref f)) ∧ PySem.W.typeIn K (.ref f) = some (.type "function")
  i_BadSign : ∃ f fd, FunD K "__init__" "BadSign.__init__" (defArgs s_BadSign___init__) (defBody s_BadSign___init__) (defScope s_BadSign___init__) [] [] f fd ∧ PySem.W.findIn K (.ref (He.ga K "BadSign")) "__init__" = some (some (.ref f)) ∧ PySem.W.typeIn K (.ref f) = some (.type "function")
  i_BadThread : ∃ f fd, FunD K "__init__" "BadThread.__init__" (defArgs s_BadThread___init__) (defBody s_BadThread___init__) (defScope s_BadThread___init__) [] [] f fd ∧ PySem.W.findIn K (.ref (He.ga K "BadThread")) "__init__" = some (some (.ref f)) ∧ PySem.W.typeIn K (.ref f) = some (.type "function")
  xall : MH.XAll K (fun n => He.ga K (errN n)) [0, 2, 8, 22, 27, 29, 32, 40] xsub
  bas : BasC K mg "WovenError"
  mg_Board : mg "Board" = some (.ref C)
  cls_Board : Cls K C
  ok_Board : ClsOk K C
  na_Board_table : NoAttr K C "table"
  mg_Desk : mg "Desk" = some (.ref (He.ga K "Desk"))
  cls_Desk : Cls K (He.ga K "Desk")
  ok_Desk : ClsOk K (He.ga K "Desk")
  na_Desk_past : NoAttr K (He.ga K "Desk") "past"
  na_Desk_undone : NoAttr K (He.ga K "Desk") "undone"
theorem okA {w : World} {K : PySem.W.Frag} {mg : Str → Option Value} {C : Addr} (T : Txt w K mg C) (n : Nat) : ClsOk K ((uv w K C).cl n) := by
  show ClsOk K (if n = 1 then _ else _)
  split
  · exact T.ok_Desk
  exact T.ok_Board
section
variable {P : Program} {w : World} {K : PySem.W.Frag} {mg : Str → Option Value} {base : Heap} {C : Addr}
theorem sc_BadBoard___init__ : FnScope ["self"] ["self"] (defScope s_BadBoard___init__) := ⟨rfl, rfl, rfl, by decide +kernel, rfl, by decide +kernel, by decide +kernel⟩
theorem oke_BadBoard (T : Txt w K mg C) : ErrI P w K mg base (He.ga K "BadBoard") ["self"] (MH.spE0 K) := by
  obtain ⟨f, fd, F0, i0, t0⟩ := T.i_BadBoard
  exact ⟨f, fd, MH.okE0 F0 sc_BadBoard___init__ "a value is no board" fun cdv A outer s H E => (pss_one (ps_expr (MH.pe_baseInit rfl T.bas.gl T.bas.sg T.bas.ty T.bas.rd T.bas.fc (pa_cons (pv 0) (pa_cons pe_str pa_nil))))), i0, t0, F0.bindsN fun _ _ _ _ _ _ us hl => match us, hl with | [_], _ => rfl⟩
theorem sc_BadColumn___init__ : FnScope ["self"] ["self"] (defScope s_BadColumn___init__) := ⟨rfl, rfl, rfl, by decide +kernel, rfl, by decide +kernel, by decide +kernel⟩
theorem oke_BadColumn (T : Txt w K mg C) : ErrI P w K mg base (He.ga K "BadColumn") ["self"] (MH.spE0 K) := by
  obtain ⟨f, fd, F0, i0, t0⟩ := T.i_BadColumn
  exact ⟨f, fd, MH.okE0 F0 sc_BadColumn___init__ "a value is no column" fun cdv A outer s H E => (pss_one (ps_expr (MH.pe_baseInit rfl T.bas.gl T.bas.sg T.bas.ty T.bas.rd T.bas.fc (pa_cons (pv 0) (pa_cons pe_str pa_nil))))), i0, t0, F0.bindsN fun _ _ _ _ _ _ us hl => match us, hl with | [_], _ => rfl⟩
theorem sc_BadRow___init__ : FnScope ["self"] ["self"] (defScope s_BadRow___init__) := ⟨rfl, rfl, rfl, by decide +kernel, rfl, by decide +kernel, by decide +kernel⟩
theorem oke_BadRow (T : Txt w K mg C) : ErrI P w K mg base (He.ga K "BadRow") ["self"] (MH.spE0 K) := by
  obtain ⟨f, fd, F0, i0, t0⟩ := T.i_BadRow
  exact ⟨f, fd, MH.okE0 F0 sc_BadRow___init__ "a value is no row" fun cdv A outer s H E => (pss_one (ps_expr (MH.pe_baseInit rfl T.bas.gl T.bas.sg T.bas.ty T.bas.rd T.bas.fc (pa_cons (pv 0) (pa_cons pe_str pa_nil))))), i0, t0, F0.bindsN fun _ _ _ _ _ _ us hl => match us, hl with | [_], _ => rfl⟩
theorem sc_BadSign___init__ : FnScope ["self"] ["self"] (defScope s_BadSign___init__) := ⟨rfl, rfl, rfl, by decide +kernel, rfl, by decide +kernel, by decide +kernel⟩
theorem oke_BadSign (T : Txt w K mg C) : ErrI P w K mg base (He.ga K "BadSign") ["self"] (MH.spE0 K) := by
  obtain ⟨f, fd, F0, i0, t0⟩ := T.i_BadSign
  exact ⟨f, fd, MH.okE0 F0 sc_BadSign___init__ "a value is no sign" fun cdv A outer s H E => (pss_one (ps_expr (MH.pe_baseInit rfl T.bas.gl T.bas.sg T.bas.ty T.bas.rd T.bas.fc (pa_cons (pv 0) (pa_cons pe_str pa_nil))))), i0, t0, F0.bindsN fun _ _ _ _ _ _ us hl => match us, hl with | [_], _ => rfl⟩
theorem sc_BadThread___init__ : FnScope ["self"] ["self"] (defScope s_BadThread___init__) := ⟨rfl, rfl, rfl, by decide +kernel, rfl, by decide +kernel, by decide +kernel⟩
theorem oke_BadThread (T : Txt w K mg C) : ErrI P w K mg base (He.ga K "BadThread") ["self"] (MH.spE0 K) := by
  obtain ⟨f, fd, F0, i0, t0⟩ := T.i_BadThread
  exact ⟨f, fd, MH.okE0 F0 sc_BadThread___init__ "a value is no thread" fun cdv A outer s H E => (pss_one (ps_expr (MH.pe_baseInit rfl T.bas.gl T.bas.sg T.bas.ty T.bas.rd T.bas.fc (pa_cons (pv 0) (pa_cons pe_str pa_nil))))), i0, t0, F0.bindsN fun _ _ _ _ _ _ us hl => match us, hl with | [_], _ => rfl⟩
theorem sc_need_board : FnScope ["board"] ["board"] (defScope s_need_board) := ⟨rfl, rfl, rfl, by decide +kernel, rfl, by decide +kernel, by decide +kernel⟩
def B_need_board : ML.Env → SO :=
  (ifS (notT (testF (isoF (varF 0) 0))) neverF nxF)
def F_need_board : List D → Rt := runF 1 B_need_board
theorem okd_need_board (T : Txt w K mg C) {f : Addr} {fd : FuncData} (F0 : FunD K "need_board" "need_board" (defArgs s_need_board) (defBody s_need_board) (defScope s_need_board) [] [] f fd) : FnOk P w K mg base CX0 1 f fd ["board"] (SpF (uv w K C) 1 F_need_board) := by
  refine okF (u := uv w K C) ⟨rfl, rfl⟩ F0 sc_need_board rfl fun cdv A outer s H E hr => ⟨_, (pss_one (ps_if (pt_not (pt_val (pe_callB (r := MH.rIsiA K) MH.call_isiA rfl T.n_isinstance (by decide +kernel) (pa_cons (pv 0) (pa_cons (pe_glob (v := .ref C) rfl T.mg_Board rfl) pa_nil))))) (pss_one ps_never) pss_nil)), fun mo_ => ?_⟩
  exact (rs_if (rt_not (rt_B (rz_iso (u := (uv w K C).mt mo_ []) (c := 0) (rz_var 0) T.ok_Board))) rs_never rs_next)
theorem ok_need_board (T : Txt w K mg C) : FnX P w K mg base 1 ["board"] (SpF (uv w K C) 1 F_need_board) (fun f => mg "need_board" = some (.ref f)) := by
  obtain ⟨f, fd, F0, m0⟩ := T.d_need_board
  exact ⟨f, fd, okd_need_board T F0, m0, F0.kp, F0.bindsN fun _ _ _ _ _ _ us hl => match us, hl with | [_], _ => rfl⟩
theorem sc_Board___len__ : FnScope ["self"] ["self"] (defScope s_Board___len__) := ⟨rfl, rfl, rfl, by decide +kernel, rfl, by decide +kernel, by decide +kernel⟩
def B_Board___len__ : ML.Env → SO :=
  (retF (cbF (consF (frzF (lstM (starF (fldF (varF 0) 0 "table") (starF (op2F (fldF (varF 0) 0 "table") (cF (.int 0)) ixD) nilF)))) nilF) lenD))
def F_Board___len__ : List D → Rt := runF 1 B_Board___len__
theorem okd_Board___len__ (T : Txt w K mg C) {f : Addr} {fd : FuncData} (F0 : FunD K "__len__" "Board.__len__" (defArgs s_Board___len__) (defBody s_Board___len__) (defScope s_Board___len__) [] [] f fd) : FnOk P w K mg base CX0 1 f fd ["self"] (SpF (uv w K C) 1 F_Board___len__) := by
  refine okF (u := uv w K C) ⟨rfl, rfl⟩ F0 sc_Board___len__ rfl fun cdv A outer s H E hr => ⟨_, (pss_one (ps_ret (pe_callB (r := MH.rLen0 K) call_len rfl T.n_len (by decide +kernel) (pa_cons (pe_lst (MH.pa_starK (K := K) rfl rfl (MH.pe_fldK (K := K) rfl (pv 0) rfl) (MH.pa_starK (K := K) rfl rfl (pe_ix (r := rIx K) ix_seq (MH.pe_fldK (K := K) rfl (pv 0) rfl) pe_int (fun _ _ => rfl)) pa_nil))) pa_nil)))), fun mo_ => ?_⟩
  exact (rs_ret (rz_cb (rz_cons (rz_frz (rzm_lst (rz_star (rz_fld (u := (uv w K C).mt mo_ []) (c := 0) (rz_var 0) T.cls_Board T.na_Board_table) (rz_star (rz_op (rz_fld (u := (uv w K C).mt mo_ []) (c := 0) (rz_var 0) T.cls_Board T.na_Board_table) rz_int rr_ix) rz_nil)))) rz_nil) rc_len))
theorem ok_Board___len__ (T : Txt w K mg C) : FnX P w K mg base 1 ["self"] (SpF (uv w K C) 1 F_Board___len__) (fun f => Meth K C "__len__" f) := by
  obtain ⟨f, fd, F0, m0⟩ := T.d_Board___len__
  exact ⟨f, fd, okd_Board___len__ T F0, m0, F0.kp, F0.bindsN fun _ _ _ _ _ _ us hl => match us, hl with | [_], _ => rfl⟩
theorem sc_Board_rows : FnScope ["self"] ["self"] (defScope s_Board_rows) := ⟨rfl, rfl, rfl, by decide +kernel, rfl, by decide +kernel, by decide +kernel⟩
def B_Board_rows : ML.Env → SO :=
  (retF (cbF (consF (fldF (varF 0) 0 "table") nilF) (lenA 0 F_Board___len__)))
def F_Board_rows : List D → Rt := runF 1 B_Board_rows
theorem okd_Board_rows (T : Txt w K mg C) {f : Addr} {fd : FuncData} (F0 : FunD K "rows" "Board.rows" (defArgs s_Board_rows) (defBody s_Board_rows) (defScope s_Board_rows) [] [] f fd) : FnOk P w K mg base CX0 3 f fd ["self"] (SpF (uv w K C) 1 F_Board_rows) := by
  obtain ⟨f_Board___len__, fd_Board___len__, G_Board___len__, m_Board___len__, k_Board___len__, b_Board___len__⟩ := ok_Board___len__ (P := P) (w := w) (base := base) T
  refine okF (u := uv w K C) ⟨rfl, rfl⟩ F0 sc_Board_rows rfl fun cdv A outer s H E hr => ⟨_, (pss_one (ps_ret (pe_callB (r := MH.rLenA K C (SpF (uv w K C) 1 F_Board___len__)) (MH.call_lenA m_Board___len__ G_Board___len__ (hr.mono (by decide)) b_Board___len__) rfl T.n_len (by decide +kernel) (pa_cons (MH.pe_fldK (K := K) rfl (pv 0) rfl) pa_nil)))), fun mo_ => ?_⟩
  exact (rs_ret (rz_cb (rz_cons (rz_fld (u := (uv w K C).mt mo_ []) (c := 0) (rz_var 0) T.cls_Board T.na_Board_table) rz_nil) rc_lenA))
theorem ok_Board_rows (T : Txt w K mg C) : FnX P w K mg base 3 ["self"] (SpF (uv w K C) 1 F_Board_rows) (fun f => ∃ p, PropOf K C "rows" p f) := by
  obtain ⟨f, fd, F0, m0⟩ := T.d_Board_rows
  exact ⟨f, fd, okd_Board_rows T F0, m0, F0.kp, F0.bindsN fun _ _ _ _ _ _ us hl => match us, hl with | [_], _ => rfl⟩
theorem sc_all_steps : FnScope ["board", "found", "many", "at", "line", "place", "sign"] ["board"] (defScope s_all_steps) := ⟨rfl, rfl, rfl, by decide +kernel, rfl, by decide +kernel, by decide +kernel⟩
abbrev B_all_steps_L1 : ML.Env → SO :=
  (seqF (ifS (testF (op2F (varF 6) (cF (.str ">x")) inD)) (appF 1 (tupF (consF (varF 3) (consF (op2F (varF 2) (varF 5) addD) nilF)))) nxF)
  (ifS (testF (op2F (varF 6) (cF (.str "<x")) inD)) (appF 1 (tupF (consF (op2F (varF 2) (varF 5) addD) (consF (varF 3) nilF)))) nxF))
abbrev B_all_steps_L2 : ML.Env → SO :=
  (forS (enF (varF 4)) (gtupF 2 (gconsF (gnF 5) (gconsF (gnF 6) gnilF))) B_all_steps_L1)
def B_all_steps : ML.Env → SO :=
  (seqF (parF 1 2 (lstM nilF) (fzM (cbF (consF (fldF (varF 0) 0 "table") nilF) (lenA 0 F_Board___len__))))
  (seqF (forS (enF (fldF (varF 0) 0 "table")) (gtupF 2 (gconsF (gnF 3) (gconsF (gnF 4) gnilF))) B_all_steps_L2)
  (retF (cbF (consF (varF 1) nilF) sortAD))))
def F_all_steps : List D → Rt := runF 7 B_all_steps
theorem okd_all_steps (T : Txt w K mg C) {f : Addr} {fd : FuncData} (F0 : FunD K "all_steps" "all_steps" (defArgs s_all_steps) (defBody s_all_steps) (defScope s_all_steps) [] [] f fd) : FnOk P w K mg base CX0 3 f fd ["board"] (SpF (uv w K C) 1 F_all_steps) := by
  obtain ⟨f_Board___len__, fd_Board___len__, G_Board___len__, m_Board___len__, k_Board___len__, b_Board___len__⟩ := ok_Board___len__ (P := P) (w := w) (base := base) T
  refine okF (u := uv w K C) ⟨rfl, rfl⟩ F0 sc_all_steps rfl fun cdv A outer s H E hr => ⟨_, (pss_cons (ps_par (i := 1) (j := 2) rfl sc_all_steps.nd rfl rfl (by decide) rfl rfl (pa_cons (pe_lst pa_nil) (pa_cons (pe_callB (r := MH.rLenA K C (SpF (uv w K C) 1 F_Board___len__)) (MH.call_lenA m_Board___len__ G_Board___len__ (hr.mono (by decide)) b_Board___len__) rfl T.n_len (by decide +kernel) (pa_cons (MH.pe_fldK (K := K) rfl (pv 0) rfl) pa_nil)) pa_nil)) (by rfl))
  (pss_cons (ps_for PassesOwn.never rfl (MH.pi_enumK (K := K) rfl rfl T.n_enumerate (pa_cons (MH.pe_fldK (K := K) rfl (pv 0) rfl) pa_nil)) (MH.pg_tupK (K := K) (n := 2) rfl rfl (pgs_cons (pg_name (i := 3) sc_all_steps.nd rfl (Or.inl rfl)) (pgs_cons (pg_name (i := 4) sc_all_steps.nd rfl (Or.inl rfl)) pgs_nil))) (pss_one (ps_for PassesOwn.never rfl (MH.pi_enumK (K := K) rfl rfl T.n_enumerate (pa_cons (pv 4) pa_nil)) (MH.pg_tupK (K := K) (n := 2) rfl rfl (pgs_cons (pg_name (i := 5) sc_all_steps.nd rfl (Or.inl rfl)) (pgs_cons (pg_name (i := 6) sc_all_steps.nd rfl (Or.inl rfl)) pgs_nil))) (pss_cons (ps_if (pt_cmpR (r := MH.rInA K) (MH.op_inA hr) (pv 6) pe_str (by rfl)) (pss_one (ps_expr (pe_bm PySem.F.plainAttrs_list PySem.F.slot_list_append PySem.F.type_list_append mt_append (pv 1) (pa_cons (pe_tup (pa_cons (pv 3) (pa_cons (pe_op (r := MH.rAddA K) MH.op_addA (pv 2) (pv 5)) pa_nil))) pa_nil)))) pss_nil)
  (pss_one (ps_if (pt_cmpR (r := MH.rInA K) (MH.op_inA hr) (pv 6) pe_str (by rfl)) (pss_one (ps_expr (pe_bm PySem.F.plainAttrs_list PySem.F.slot_list_append PySem.F.type_list_append mt_append (pv 1) (pa_cons (pe_tup (pa_cons (pe_op (r := MH.rAddA K) MH.op_addA (pv 2) (pv 5)) (pa_cons (pv 3) pa_nil))) pa_nil)))) pss_nil))))))
  (pss_one (ps_ret (pe_callB (r := MH.rSortA K) (MH.cr_sortA hr rfl) rfl T.n_sorted (by decide +kernel) (pa_cons (pv 1) pa_nil)))))), fun mo_ => ?_⟩
  exact (rs_seq (rs_par (b := []) (rzm_lst rz_nil) (rzm_fz (rz_cb (rz_cons (rz_fld (u := (uv w K C).mt mo_ []) (c := 0) (rz_var 0) T.cls_Board T.na_Board_table) rz_nil) rc_lenA)))
  (rs_seq (rs_for (b := []) (ri_enum (rz_fld (u := (uv w K C).mt mo_ []) (c := 0) (rz_var 0) T.cls_Board T.na_Board_table)) (rg_tup (rgs_cons (rg_name 3) (rgs_cons (rg_name 4) rgs_nil))) (rs_for (b := []) (ri_enum (rz_var 4)) (rg_tup (rgs_cons (rg_name 5) (rgs_cons (rg_name 6) rgs_nil))) (rs_seq (rs_if (rt_test (rz_op (rz_var 6) rz_str rr_in)) (rs_app (rz_tup (rz_cons (rz_var 3) (rz_cons (rz_op (rz_var 2) (rz_var 5) rr_add) rz_nil)))) rs_next)
  (rs_if (rt_test (rz_op (rz_var 6) rz_str rr_in)) (rs_app (rz_tup (rz_cons (rz_op (rz_var 2) (rz_var 5) rr_add) (rz_cons (rz_var 3) rz_nil)))) rs_next))))
  (rs_ret (rz_cb (rz_cons (rz_var 1) rz_nil) rc_sortA))))
theorem ok_all_steps (T : Txt w K mg C) : FnX P w K mg base 3 ["board"] (SpF (uv w K C) 1 F_all_steps) (fun f => mg "all_steps" = some (.ref f)) := by
  obtain ⟨f, fd, F0, m0⟩ := T.d_all_steps
  exact ⟨f, fd, okd_all_steps T F0, m0, F0.kp, F0.bindsN fun _ _ _ _ _ _ us hl => match us, hl with | [_], _ => rfl⟩
theorem sc_strengths_of : FnScope ["board", "wires", "pair"] ["board", "wires"] (defScope s_strengths_of) := ⟨rfl, rfl, rfl, by decide +kernel, rfl, by decide +kernel, by decide +kernel⟩
def B_strengths_of : ML.Env → SO :=
  (retF (cbF (consF (frzF (lcM [2] (itF (callF 1 (consF (varF 0) nilF) F_all_steps)) (gnF 2) tYesF (op2F (op2F (varF 1) (cbF (consF (varF 2) nilF) minTD) ixD) (op2F (cbF (consF (varF 2) nilF) maxTD) (propF (varF 0) 0 F_Board_rows) subD) ixD))) nilF) tupleD))
def F_strengths_of : List D → Rt := runF 3 B_strengths_of
theorem okd_strengths_of (T : Txt w K mg C) {f : Addr} {fd : FuncData} (F0 : FunD K "strengths_of" "strengths_of" (defArgs s_strengths_of) (defBody s_strengths_of) (defScope s_strengths_of) [] [] f fd) : FnOk P w K mg base CX0 5 f fd ["board", "wires"] (SpF (uv w K C) 2 F_strengths_of) := by
  obtain ⟨f_all_steps, fd_all_steps, G_all_steps, m_all_steps, k_all_steps, b_all_steps⟩ := ok_all_steps (P := P) (w := w) (base := base) T
  obtain ⟨f_Board_rows, fd_Board_rows, G_Board_rows, ⟨p_Board_rows, m_Board_rows⟩, k_Board_rows, b_Board_rows⟩ := ok_Board_rows (P := P) (w := w) (base := base) T
  refine okF (u := uv w K C) ⟨rfl, rfl⟩ F0 sc_strengths_of rfl fun cdv A outer s H E hr => ⟨_, (pss_one (ps_ret (pe_callTy (r := MH.rTuple K) call_tuple_of rfl T.n_tuple (by decide +kernel) (pa_cons (pe_lc (own := [("pair", 2)]) rfl sc_strengths_of.nd (MH.pi_anyK (K := K) rfl (pe_call G_all_steps (hr.mono (by decide)) rfl m_all_steps k_all_steps b_all_steps .nil pass0 (pa_cons (pv 0) pa_nil))) (blkOk_by (own := [("pair", 2)]) (by kernel_rfl)) (fun _ _ _ _ _ => (pg_name (i := 2) sc_strengths_of.nd rfl (Or.inl rfl))) (fun _ _ _ _ _ => pts_nil) (fun _ _ _ _ _ => (pe_ix (r := rIx K) ix_seq (pe_ix (r := rIx K) ix_seq (pv 1) (pe_callB (r := MH.rMinT K) (MH.cr_minT hr rfl) rfl T.n_min (by decide +kernel) (pa_cons (pv 2) pa_nil)) (fun _ _ => rfl)) (pe_op op_sub (pe_callB (r := MH.rMaxT K) (MH.cr_maxT rfl) rfl T.n_max (by decide +kernel) (pa_cons (pv 2) pa_nil)) (MH.pe_propK (K := K) rfl (pv 0) T.cls_Board m_Board_rows G_Board_rows (hr.mono (by decide)) b_Board_rows pass0 rfl)) (fun _ _ => rfl)))) pa_nil)))), fun mo_ => ?_⟩
  exact (rs_ret (rz_cb (rz_cons (rz_frz (rzm_lc (vs := [2]) (ri_any (rz_call0 (rz_cons (rz_var 0) rz_nil))) (rg_name 2) rt_yes (rz_op (rz_op (rz_var 1) (rz_cb (rz_cons (rz_var 2) rz_nil) rc_minT) rr_ix) (rz_op (rz_cb (rz_cons (rz_var 2) rz_nil) rc_maxT) (rz_prop (u := (uv w K C).mt mo_ []) (c := 0) (rz_var 0)) rr_sub) rr_ix))) rz_nil) rc_tuple))
theorem ok_strengths_of (T : Txt w K mg C) : FnX P w K mg base 5 ["board", "wires"] (SpF (uv w K C) 2 F_strengths_of) (fun f => mg "strengths_of" = some (.ref f)) := by
  obtain ⟨f, fd, F0, m0⟩ := T.d_strengths_of
  exact ⟨f, fd, okd_strengths_of T F0, m0, F0.kp, F0.bindsN fun _ _ _ _ _ _ us hl => match us, hl with | [_, _], _ => rfl⟩
theorem sc_Board_columns : FnScope ["self"] ["self"] (defScope s_Board_columns) := ⟨rfl, rfl, rfl, by decide +kernel, rfl, by decide +kernel, by decide +kernel⟩
def B_Board_columns : ML.Env → SO :=
  (retF (cbF (consF (op2F (fldF (varF 0) 0 "table") (cF (.int 0)) ixD) nilF) (lenA 0 F_Board___len__)))
def F_Board_columns : List D → Rt := runF 1 B_Board_columns
theorem okd_Board_columns (T : Txt w K mg C) {f : Addr} {fd : FuncData} (F0 : FunD K "columns" "Board.columns" (defArgs s_Board_columns) (defBody s_Board_columns) (defScope s_Board_columns) [] [] f fd) : FnOk P w K mg base CX0 3 f fd ["self"] (SpF (uv w K C) 1 F_Board_columns) := by
  obtain ⟨f_Board___len__, fd_Board___len__, G_Board___len__, m_Board___len__, k_Board___len__, b_Board___len__⟩ := ok_Board___len__ (P := P) (w := w) (base := base) T
  refine okF (u := uv w K C) ⟨rfl, rfl⟩ F0 sc_Board_columns rfl fun cdv A outer s H E hr => ⟨_, (pss_one (ps_ret (pe_callB (r := MH.rLenA K C (SpF (uv w K C) 1 F_Board___len__)) (MH.call_lenA m_Board___len__ G_Board___len__ (hr.mono (by decide)) b_Board___len__) rfl T.n_len (by decide +kernel) (pa_cons (pe_ix (r := rIx K) ix_seq (MH.pe_fldK (K := K) rfl (pv 0) rfl) pe_int (fun _ _ => rfl)) pa_nil)))), fun mo_ => ?_⟩
  exact (rs_ret (rz_cb (rz_cons (rz_op (rz_fld (u := (uv w K C).mt mo_ []) (c := 0) (rz_var 0) T.cls_Board T.na_Board_table) rz_int rr_ix) rz_nil) rc_lenA))
theorem ok_Board_columns (T : Txt w K mg C) : FnX P w K mg base 3 ["self"] (SpF (uv w K C) 1 F_Board_columns) (fun f => ∃ p, PropOf K C "columns" p f) := by
  obtain ⟨f, fd, F0, m0⟩ := T.d_Board_columns
  exact ⟨f, fd, okd_Board_columns T F0, m0, F0.kp, F0.bindsN fun _ _ _ _ _ _ us hl => match us, hl with | [_], _ => rfl⟩
theorem sc_Desk___init__ : FnScope ["self", "board", "wires"] ["self", "board"] (defScope s_Desk___init__) := ⟨rfl, rfl, rfl, by decide +kernel, rfl, by decide +kernel, by decide +kernel⟩
def B_Desk___init__ : ML.Env → SO :=
  (seqF (dropF (callF 1 (consF (varF 1) nilF) F_need_board))
  (seqF (asgF (op2F (tupF (consF (op2F (tupF (consF (cF (.int 1)) nilF)) (propF (varF 1) 0 F_Board_columns) mulD) nilF)) (propF (varF 1) 0 F_Board_rows) mulD) (gnF 2))
  (seqF (sfldF 0 1 "past" (tupF (consF (tupF (consF (varF 1) (consF (op2F (tupF (consF (cF (.int 0)) nilF)) (cbF (consF (varF 1) nilF) (lenA 0 F_Board___len__)) mulD) (consF (varF 2) (consF (callF 2 (consF (varF 1) (consF (varF 2) nilF)) F_strengths_of) nilF))))) nilF)))
  (sfldF 0 1 "undone" (tupF nilF)))))
def F_Desk___init__ : D → List D → RtM := runM 3 B_Desk___init__
theorem okd_Desk___init__ (T : Txt w K mg C) {f : Addr} {fd : FuncData} (F0 : FunD K "__init__" "Desk.__init__" (defArgs s_Desk___init__) (defBody s_Desk___init__) (defScope s_Desk___init__) [] [] f fd) : FnOk P w K mg base CX0 6 f fd ["self", "board"] (SpM (uv w K C) 1 F_Desk___init__) := by
  obtain ⟨f_need_board, fd_need_board, G_need_board, m_need_board, k_need_board, b_need_board⟩ := ok_need_board (P := P) (w := w) (base := base) T
  obtain ⟨f_Board_columns, fd_Board_columns, G_Board_columns, ⟨p_Board_columns, m_Board_columns⟩, k_Board_columns, b_Board_columns⟩ := ok_Board_columns (P := P) (w := w) (base := base) T
  obtain ⟨f_Board_rows, fd_Board_rows, G_Board_rows, ⟨p_Board_rows, m_Board_rows⟩, k_Board_rows, b_Board_rows⟩ := ok_Board_rows (P := P) (w := w) (base := base) T
  obtain ⟨f_strengths_of, fd_strengths_of, G_strengths_of, m_strengths_of, k_strengths_of, b_strengths_of⟩ := ok_strengths_of (P := P) (w := w) (base := base) T
  obtain ⟨f_Board___len__, fd_Board___len__, G_Board___len__, m_Board___len__, k_Board___len__, b_Board___len__⟩ := ok_Board___len__ (P := P) (w := w) (base := base) T
  obtain ⟨t_FIRST_STRENGTH, c_FIRST_STRENGTH⟩ := T.c_FIRST_STRENGTH
  refine okM (u := uv w K C) ⟨rfl, rfl⟩ F0 sc_Desk___init__ rfl rfl fun cdv A outer s H E hr => ⟨_, (pss_cons (ps_expr (pe_call G_need_board (hr.mono (by decide)) rfl m_need_board k_need_board b_need_board .nil pass0 (pa_cons (pv 1) pa_nil)))
  (pss_cons (ps_set (i := 2) sc_Desk___init__.nd rfl (Or.inl rfl) (pe_op (r := MH.rMulA K) MH.op_mulA (pe_tup (pa_cons (pe_op (r := MH.rMulA K) MH.op_mulA (pe_tup (pa_cons (pe_glob (v := .int 1) rfl c_FIRST_STRENGTH ⟨_, rfl⟩) pa_nil)) (MH.pe_propK (K := K) rfl (pv 1) T.cls_Board m_Board_columns G_Board_columns (hr.mono (by decide)) b_Board_columns pass0 rfl)) pa_nil)) (MH.pe_propK (K := K) rfl (pv 1) T.cls_Board m_Board_rows G_Board_rows (hr.mono (by decide)) b_Board_rows pass0 rfl)))
  (pss_cons (ps_fld (pv 0) (pe_tup (pa_cons (pe_tup (pa_cons (pv 1) (pa_cons (pe_op (r := MH.rMulA K) MH.op_mulA (pe_tup (pa_cons pe_int pa_nil)) (pe_callB (r := MH.rLenA K C (SpF (uv w K C) 1 F_Board___len__)) (MH.call_lenA m_Board___len__ G_Board___len__ (hr.mono (by decide)) b_Board___len__) rfl T.n_len (by decide +kernel) (pa_cons (pv 1) pa_nil))) (pa_cons (pv 2) (pa_cons (pe_call G_strengths_of (hr.mono (by decide)) rfl m_strengths_of k_strengths_of b_strengths_of .nil pass0 (pa_cons (pv 1) (pa_cons (pv 2) pa_nil))) pa_nil))))) pa_nil)) rfl)
  (pss_one (ps_fld (pv 0) (pe_tup pa_nil) rfl))))), fun mo_ => ?_⟩
  exact (rs_seq (rs_drop (rz_call0 (rz_cons (rz_var 1) rz_nil)))
  (rs_seq (rs_asg (b := [0]) (rz_op (rz_tup (rz_cons (rz_op (rz_tup (rz_cons rz_int rz_nil)) (rz_prop (u := (uv w K C).mt mo_ []) (c := 0) (rz_var 1)) rr_mul) rz_nil)) (rz_prop (u := (uv w K C).mt mo_ []) (c := 0) (rz_var 1)) rr_mul) (rg_name 2))
  (rs_seq (rs_fld (u := (uv w K C).mt mo_ []) (c := 1) (rz_tup (rz_cons (rz_tup (rz_cons (rz_var 1) (rz_cons (rz_op (rz_tup (rz_cons rz_int rz_nil)) (rz_cb (rz_cons (rz_var 1) rz_nil) rc_lenA) rr_mul) (rz_cons (rz_var 2) (rz_cons (rz_call0 (rz_cons (rz_var 1) (rz_cons (rz_var 2) rz_nil))) rz_nil))))) rz_nil)) T.cls_Desk T.na_Desk_past)
  (rs_fld (u := (uv w K C).mt mo_ []) (c := 1) (rz_tup rz_nil) T.cls_Desk T.na_Desk_undone))))
theorem ok_Desk___init__ (T : Txt w K mg C) : FnX P w K mg base 6 ["self", "board"] (SpM (uv w K C) 1 F_Desk___init__) (fun f => Mk K (He.ga K "Desk") f) := by
  obtain ⟨f, fd, F0, m0⟩ := T.d_Desk___init__
  exact ⟨f, fd, okd_Desk___init__ T F0, m0, F0.kp, F0.bindsN fun _ _ _ _ _ _ us hl => match us, hl with | [_, _], _ => rfl⟩
theorem sc_need_board_xBadBoard : FnScope ["board"] ["board"] (defScope s_need_board_xBadBoard) := ⟨rfl, rfl, rfl, by decide +kernel, rfl, by decide +kernel, by decide +kernel⟩
def B_need_board_xBadBoard : ML.Env → SO :=
  (ifS (notT (testF (isoF (varF 0) 0))) (raise0F 2) nxF)
def F_need_board_xBadBoard : List D → Rt := runX 1 B_need_board_xBadBoard
theorem okd_need_board_xBadBoard (T : Txt w K mg C) {f : Addr} {fd : FuncData} (F0 : FunD K "need_board" "need_board" (defArgs s_need_board_xBadBoard) (defBody s_need_board_xBadBoard) (defScope s_need_board_xBadBoard) [] [] f fd) : FnOk P w K mg base (L2.CX P w) 3 f fd ["board"] (SpF (uv w K C) 1 F_need_board_xBadBoard) := by
  refine okX (u := uv w K C) ⟨rfl, rfl⟩ F0 sc_need_board_xBadBoard rfl fun cdv A outer s H E hr tk hp => ⟨_, (pss_one (ps_if (pt_not (pt_val (pe_callB (r := MH.rIsiA K) MH.call_isiA rfl T.n_isinstance (by decide +kernel) (pa_cons (pv 0) (pa_cons (pe_glob (v := .ref C) rfl T.mg_Board rfl) pa_nil))))) (pss_one (ps_raise0 tk T.x_BadBoard (oke_BadBoard T) (hr.mono (by decide)) rfl rfl)) pss_nil)), fun mo_ => ?_⟩
  exact (rs_if (rt_not (rt_B (rz_iso (u := (uv w K C).mt mo_ []) (c := 0) (rz_var 0) T.ok_Board))) (rs_raise0 (u := (uv w K C).mt mo_ []) (c := 2) rfl) rs_next)
theorem ok_need_board_xBadBoard (T : Txt w K mg C) : FnXX P w K mg base 3 ["board"] (SpF (uv w K C) 1 F_need_board_xBadBoard) (fun f => mg "need_board" = some (.ref f)) := by
  obtain ⟨f, fd, F0, m0⟩ := T.d_need_board
  exact ⟨f, fd, okd_need_board_xBadBoard T F0, m0, F0.kp, F0.bindsN fun _ _ _ _ _ _ us hl => match us, hl with | [_], _ => rfl⟩
theorem sc_Desk___init___xBadBoard : FnScope ["self", "board", "wires"] ["self", "board"] (defScope s_Desk___init___xBadBoard) := ⟨rfl, rfl, rfl, by decide +kernel, rfl, by decide +kernel, by decide +kernel⟩
def B_Desk___init___xBadBoard : ML.Env → SO :=
  (seqF (dropF (callF 1 (consF (varF 1) nilF) F_need_board_xBadBoard))
  (seqF (asgF (op2F (tupF (consF (op2F (tupF (consF (cF (.int 1)) nilF)) (propF (varF 1) 0 F_Board_columns) mulD) nilF)) (propF (varF 1) 0 F_Board_rows) mulD) (gnF 2))
  (seqF (sfldF 0 1 "past" (tupF (consF (tupF (consF (varF 1) (consF (op2F (tupF (consF (cF (.int 0)) nilF)) (cbF (consF (varF 1) nilF) (lenA 0 F_Board___len__)) mulD) (consF (varF 2) (consF (callF 2 (consF (varF 1) (consF (varF 2) nilF)) F_strengths_of) nilF))))) nilF)))
  (sfldF 0 1 "undone" (tupF nilF)))))
def F_Desk___init___xBadBoard : D → List D → RtU := runU 3 B_Desk___init___xBadBoard
theorem okd_Desk___init___xBadBoard (T : Txt w K mg C) {f : Addr} {fd : FuncData} (F0 : FunD K "__init__" "Desk.__init__" (defArgs s_Desk___init___xBadBoard) (defBody s_Desk___init___xBadBoard) (defScope s_Desk___init___xBadBoard) [] [] f fd) : FnOk P w K mg base (L2.CX P w) 6 f fd ["self", "board"] (SpU (uv w K C) 1 F_Desk___init___xBadBoard) := by
  obtain ⟨f_need_board_xBadBoard, fd_need_board_xBadBoard, G_need_board_xBadBoard, m_need_board_xBadBoard, k_need_board_xBadBoard, b_need_board_xBadBoard⟩ := ok_need_board_xBadBoard (P := P) (w := w) (base := base) T
  obtain ⟨f_Board_columns, fd_Board_columns, G_Board_columns, ⟨p_Board_columns, m_Board_columns⟩, k_Board_columns, b_Board_columns⟩ := ok_Board_columns (P := P) (w := w) (base := base) T
  obtain ⟨f_Board_rows, fd_Board_rows, G_Board_rows, ⟨p_Board_rows, m_Board_rows⟩, k_Board_rows, b_Board_rows⟩ := ok_Board_rows (P := P) (w := w) (base := base) T
  obtain ⟨f_strengths_of, fd_strengths_of, G_strengths_of, m_strengths_of, k_strengths_of, b_strengths_of⟩ := ok_strengths_of (P := P) (w := w) (base := base) T
  obtain ⟨f_Board___len__, fd_Board___len__, G_Board___len__, m_Board___len__, k_Board___len__, b_Board___len__⟩ := ok_Board___len__ (P := P) (w := w) (base := base) T
  obtain ⟨t_FIRST_STRENGTH, c_FIRST_STRENGTH⟩ := T.c_FIRST_STRENGTH
  refine okU (u := uv w K C) ⟨rfl, rfl⟩ F0 sc_Desk___init___xBadBoard rfl rfl fun cdv A outer s H E hr tk hp => ⟨_, (pss_cons (ps_expr (pe_callS G_need_board_xBadBoard (hr.mono (by decide)) rfl m_need_board_xBadBoard k_need_board_xBadBoard b_need_board_xBadBoard (passAt tk) (pa_cons (pv 1) pa_nil)))
  (pss_cons (ps_set (i := 2) sc_Desk___init___xBadBoard.nd rfl (Or.inl rfl) (pe_op (r := MH.rMulA K) MH.op_mulA (pe_tup (pa_cons (pe_op (r := MH.rMulA K) MH.op_mulA (pe_tup (pa_cons (pe_glob (v := .int 1) rfl c_FIRST_STRENGTH ⟨_, rfl⟩) pa_nil)) (MH.pe_propK (K := K) rfl (pv 1) T.cls_Board m_Board_columns G_Board_columns (hr.mono (by decide)) b_Board_columns pass0 rfl)) pa_nil)) (MH.pe_propK (K := K) rfl (pv 1) T.cls_Board m_Board_rows G_Board_rows (hr.mono (by decide)) b_Board_rows pass0 rfl)))
  (pss_cons (ps_fld (pv 0) (pe_tup (pa_cons (pe_tup (pa_cons (pv 1) (pa_cons (pe_op (r := MH.rMulA K) MH.op_mulA (pe_tup (pa_cons pe_int pa_nil)) (pe_callB (r := MH.rLenA K C (SpF (uv w K C) 1 F_Board___len__)) (MH.call_lenA m_Board___len__ G_Board___len__ (hr.mono (by decide)) b_Board___len__) rfl T.n_len (by decide +kernel) (pa_cons (pv 1) pa_nil))) (pa_cons (pv 2) (pa_cons (pe_call G_strengths_of (hr.mono (by decide)) rfl m_strengths_of k_strengths_of b_strengths_of .nil pass0 (pa_cons (pv 1) (pa_cons (pv 2) pa_nil))) pa_nil))))) pa_nil)) rfl)
  (pss_one (ps_fld (pv 0) (pe_tup pa_nil) rfl))))), fun mo_ => ?_⟩
  exact (rs_seq (rs_drop (rz_callS (rz_cons (rz_var 1) rz_nil)))
  (rs_seq (rs_asg (b := [0]) (rz_op (rz_tup (rz_cons (rz_op (rz_tup (rz_cons rz_int rz_nil)) (rz_propN (u := (uv w K C).mt mo_ []) (c := 0) runF_nx (rz_var 1)) rr_mul) rz_nil)) (rz_propN (u := (uv w K C).mt mo_ []) (c := 0) runF_nx (rz_var 1)) rr_mul) (rg_name 2))
  (rs_seq (rs_fld (u := (uv w K C).mt mo_ []) (c := 1) (rz_tup (rz_cons (rz_tup (rz_cons (rz_var 1) (rz_cons (rz_op (rz_tup (rz_cons rz_int rz_nil)) (rz_cb (rz_cons (rz_var 1) rz_nil) rc_lenA) rr_mul) (rz_cons (rz_var 2) (rz_cons (rz_callN runF_nx (rz_cons (rz_var 1) (rz_cons (rz_var 2) rz_nil))) rz_nil))))) rz_nil)) T.cls_Desk T.na_Desk_past)
  (rs_fld (u := (uv w K C).mt mo_ []) (c := 1) (rz_tup rz_nil) T.cls_Desk T.na_Desk_undone))))
theorem ok_Desk___init___xBadBoard (T : Txt w K mg C) : FnXX P w K mg base 6 ["self", "board"] (SpU (uv w K C) 1 F_Desk___init___xBadBoard) (fun f => Mk K (He.ga K "Desk") f) := by
  obtain ⟨f, fd, F0, m0⟩ := T.d_Desk___init__
  exact ⟨f, fd, okd_Desk___init___xBadBoard T F0, m0, F0.kp, F0.bindsN fun _ _ _ _ _ _ us hl => match us, hl with | [_, _], _ => rfl⟩
theorem sc__law_made : FnScope ["_law_value", "e"] ["_law_value"] (defScope s__law_made) := ⟨rfl, rfl, rfl, by decide +kernel, rfl, by decide +kernel, by decide +kernel⟩
def B__law_made : ML.Env → SO :=
  (seqF (tryF [2] [⟨fun n => xsub n 2, some 1, (retF (xisF [2] 1 (fun n => xsub n 0)))⟩] (dropF (frzF (makeU 1 1 (consF (varF 0) nilF) F_Desk___init___xBadBoard))))
  (retF (cF (.bl false))))
def F__law_made : List D → Rt := runF 2 B__law_made
theorem okd__law_made (T : Txt w K mg C) {f : Addr} {fd : FuncData} (F0 : FunD K "_law_made" "_law_made" (defArgs s__law_made) (defBody s__law_made) (defScope s__law_made) [] [] f fd) : FnOk P w K mg base CX0 8 f fd ["_law_value"] (SpF (uv w K C) 1 F__law_made) := by
  obtain ⟨f_Desk___init___xBadBoard, fd_Desk___init___xBadBoard, G_Desk___init___xBadBoard, m_Desk___init___xBadBoard, k_Desk___init___xBadBoard, b_Desk___init___xBadBoard⟩ := ok_Desk___init___xBadBoard (P := P) (w := w) (base := base) T
  refine okF (u := uv w K C) ⟨rfl, rfl⟩ F0 sc__law_made rfl fun cdv A outer s H E hr => ⟨_, (pss_cons (MH.ps_tryC rfl rfl sc__law_made.nd L2.takes0 (fun W pn xe tk hp => (pss_one (ps_expr (MH.pe_makeX m_Desk___init___xBadBoard G_Desk___init___xBadBoard (hr.mono (by decide)) rfl T.mg_Desk b_Desk___init___xBadBoard (passAt tk) (pa_cons (pv 0) pa_nil))))) (cla_a (i := 1) ⟨rfl, by decide, .inl T.x_BadBoard.gl⟩ rfl rfl (fun a oe cv d pn hz hf => (pss_one (ps_ret (pe_callB (r := MH.rIsX K a cv d) (MH.cr_isX hz hf) rfl T.n_isinstance (by decide +kernel) (pa_cons (pv 1) (pa_cons (pe_glob (v := .ref (He.ga K "WovenError")) rfl T.x_WovenError.gl rfl) pa_nil)))))) .nil))
  (pss_one (ps_ret pe_bl))), fun mo_ => ?_⟩
  exact (rs_seq (rs_try (u := (uv w K C).mt mo_ []) (b := []) (fun W => (rs_drop (rz_frz (rzm_makeU (u := (uv w K C).mt mo_ []) (c := 1) (rz_cons (rz_var 0) rz_nil))))) (claZ (XAll.hnd T.xall 2 (by decide)) (fun a cv d => (rs_ret (rz_xis (u := ((uv w K C).mt mo_ []).on a cv d) (w := .ref (He.ga K "WovenError")) (cv := .ref (He.ga K "WovenError")) (fun _ h => h) (MH.XAll.sub T.xall (l := [2]) (by decide)).xc (fun n hn => (MH.XAll.sub T.xall (l := (0 :: [2])) (by decide)).kt 0 List.mem_cons_self n (List.mem_cons_of_mem _ hn))))) .nil))
  (rs_ret rz_bl))
theorem ok__law_made (T : Txt w K mg C) : FnX P w K mg base 8 ["_law_value"] (SpF (uv w K C) 1 F__law_made) (fun f => mg "_law_made" = some (.ref f)) := by
  obtain ⟨f, fd, F0, m0⟩ := T.d__law_made
  exact ⟨f, fd, okd__law_made T F0, m0, F0.kp, F0.bindsN fun _ _ _ _ _ _ us hl => match us, hl with | [_], _ => rfl⟩
theorem sc_is_line : FnScope ["value", "sign"] ["value"] (defScope s_is_line) := ⟨rfl, rfl, rfl, by decide +kernel, rfl, by decide +kernel, by decide +kernel⟩
def B_is_line : ML.Env → SO :=
  (retF (andV (isiF (varF 0) "str") (andV (chainF (cF (.int 1)) (cbF (consF (varF 0) nilF) (lenA 0 F_Board___len__)) (cF (.int 5)) (cmpD fun i j => decide (i ≤ j)) (cmpD fun i j => decide (i ≤ j))) (cbF (consF (frzF (lcM [1] (itF (varF 0)) (gnF 1) tYesF (op2F (varF 1) (cF (.str ".<>x")) inD))) nilF) allD))))
def F_is_line : List D → Rt := runF 2 B_is_line
theorem okd_is_line (T : Txt w K mg C) {f : Addr} {fd : FuncData} (F0 : FunD K "is_line" "is_line" (defArgs s_is_line) (defBody s_is_line) (defScope s_is_line) [] [] f fd) : FnOk P w K mg base CX0 3 f fd ["value"] (SpF (uv w K C) 1 F_is_line) := by
  obtain ⟨f_Board___len__, fd_Board___len__, G_Board___len__, m_Board___len__, k_Board___len__, b_Board___len__⟩ := ok_Board___len__ (P := P) (w := w) (base := base) T
  obtain ⟨t_MOST_LINES, c_MOST_LINES⟩ := T.c_MOST_LINES
  obtain ⟨t_SIGNS, c_SIGNS⟩ := T.c_SIGNS
  refine okF (u := uv w K C) ⟨rfl, rfl⟩ F0 sc_is_line rfl fun cdv A outer s H E hr => ⟨_, (pss_one (ps_ret (pe_and (pe_callB (r := MH.rIsiA K) MH.call_isiA rfl T.n_isinstance (by decide +kernel) (pa_cons (pv 0) (pa_cons (pe_bltn (v := .ty "str") rfl T.n_str (by decide +kernel) rfl) pa_nil))) (pe_and (pe_chain op_le op_le pe_int (pe_callB (r := MH.rLenA K C (SpF (uv w K C) 1 F_Board___len__)) (MH.call_lenA m_Board___len__ G_Board___len__ (hr.mono (by decide)) b_Board___len__) rfl T.n_len (by decide +kernel) (pa_cons (pv 0) pa_nil)) (pe_glob (v := .int 5) rfl c_MOST_LINES ⟨_, rfl⟩)) (pe_one (pe_callB (r := rAll K) (cr_all rfl) rfl T.n_all (by decide +kernel) (pa_cons (pe_lc (own := [("sign", 1)]) rfl sc_is_line.nd (MH.pi_anyK (K := K) rfl (pv 0)) (blkOk_by (own := [("sign", 1)]) (by kernel_rfl)) (fun _ _ _ _ _ => (pg_name (i := 1) sc_is_line.nd rfl (Or.inl rfl))) (fun _ _ _ _ _ => pts_nil) (fun _ _ _ _ _ => (pe_cmpR (r := MH.rInA K) (MH.op_inA hr) (pv 1) (pe_glob (v := .str ".<>x") rfl c_SIGNS ⟨_, rfl⟩) (by rfl)))) pa_nil))))))), fun mo_ => ?_⟩
  exact (rs_ret (rz_and (rz_isi (u := (uv w K C).mt mo_ []) (rz_var 0) (by decide) fun n => okA T n) (rz_and (rz_chain rz_int (rz_cb (rz_cons (rz_var 0) rz_nil) rc_lenA) rz_int rr_le rr_le) (rz_cb (rz_cons (rz_frz (rzm_lc (vs := [1]) (ri_any (rz_var 0)) (rg_name 1) rt_yes (rz_op (rz_var 1) rz_str rr_in))) rz_nil) rc_all))))
theorem ok_is_line (T : Txt w K mg C) : FnX P w K mg base 3 ["value"] (SpF (uv w K C) 1 F_is_line) (fun f => mg "is_line" = some (.ref f)) := by
  obtain ⟨f, fd, F0, m0⟩ := T.d_is_line
  exact ⟨f, fd, okd_is_line T F0, m0, F0.kp, F0.bindsN fun _ _ _ _ _ _ us hl => match us, hl with | [_], _ => rfl⟩
theorem sc_Board___init__ : FnScope ["self", "cells", "line"] ["self", "cells"] (defScope s_Board___init__) := ⟨rfl, rfl, rfl, by decide +kernel, rfl, by decide +kernel, by decide +kernel⟩
def B_Board___init__ : ML.Env → SO :=
  (seqF (ifS (orT (notT (testF (isiF (varF 1) "tuple"))) (notT (testF (chainF (cF (.int 1)) (cbF (consF (varF 1) nilF) (lenA 0 F_Board___len__)) (cF (.int 5)) (cmpD fun i j => decide (i ≤ j)) (cmpD fun i j => decide (i ≤ j)))))) neverF nxF)
  (seqF (ifS (notT (testF (cbF (consF (frzF (lcM [2] (itF (varF 1)) (gnF 2) tYesF (callF 1 (consF (varF 2) nilF) F_is_line))) nilF) allD))) neverF nxF)
  (seqF (ifS (notT (testF (cbF (consF (frzF (lcM [2] (itF (varF 1)) (gnF 2) tYesF (op2F (cbF (consF (varF 2) nilF) (lenA 0 F_Board___len__)) (cbF (consF (op2F (varF 1) (cF (.int 0)) ixD) nilF) (lenA 0 F_Board___len__)) eqD))) nilF) allD))) neverF nxF)
  (sfldF 0 0 "table" (varF 1)))))
def F_Board___init__ : D → List D → RtM := runM 3 B_Board___init__
theorem okd_Board___init__ (T : Txt w K mg C) {f : Addr} {fd : FuncData} (F0 : FunD K "__init__" "Board.__init__" (defArgs s_Board___init__) (defBody s_Board___init__) (defScope s_Board___init__) [] [] f fd) : FnOk P w K mg base CX0 4 f fd ["self", "cells"] (SpM (uv w K C) 1 F_Board___init__) := by
  obtain ⟨f_Board___len__, fd_Board___len__, G_Board___len__, m_Board___len__, k_Board___len__, b_Board___len__⟩ := ok_Board___len__ (P := P) (w := w) (base := base) T
  obtain ⟨f_is_line, fd_is_line, G_is_line, m_is_line, k_is_line, b_is_line⟩ := ok_is_line (P := P) (w := w) (base := base) T
  obtain ⟨t_MOST_LINES, c_MOST_LINES⟩ := T.c_MOST_LINES
  refine okM (u := uv w K C) ⟨rfl, rfl⟩ F0 sc_Board___init__ rfl rfl fun cdv A outer s H E hr => ⟨_, (pss_cons (ps_if (PW.pt (pw_or (pt_not (pt_val (pe_callB (r := MH.rIsiA K) MH.call_isiA rfl T.n_isinstance (by decide +kernel) (pa_cons (pv 1) (pa_cons (pe_bltn (v := .ty "tuple") rfl T.n_tuple (by decide +kernel) rfl) pa_nil))))) (pw_or1 (pt_not (pt_chain op_le op_le pe_int (pe_callB (r := MH.rLenA K C (SpF (uv w K C) 1 F_Board___len__)) (MH.call_lenA m_Board___len__ G_Board___len__ (hr.mono (by decide)) b_Board___len__) rfl T.n_len (by decide +kernel) (pa_cons (pv 1) pa_nil)) (pe_glob (v := .int 5) rfl c_MOST_LINES ⟨_, rfl⟩)))))) (pss_one ps_never) pss_nil)
  (pss_cons (ps_if (pt_not (pt_val (pe_callB (r := rAll K) (cr_all rfl) rfl T.n_all (by decide +kernel) (pa_cons (pe_lc (own := [("line", 2)]) rfl sc_Board___init__.nd (MH.pi_anyK (K := K) rfl (pv 1)) (blkOk_by (own := [("line", 2)]) (by kernel_rfl)) (fun _ _ _ _ _ => (pg_name (i := 2) sc_Board___init__.nd rfl (Or.inl rfl))) (fun _ _ _ _ _ => pts_nil) (fun _ _ _ _ _ => (pe_call G_is_line (hr.mono (by decide)) rfl m_is_line k_is_line b_is_line .nil pass0 (pa_cons (pv 2) pa_nil)))) pa_nil)))) (pss_one ps_never) pss_nil)
  (pss_cons (ps_if (pt_not (pt_val (pe_callB (r := rAll K) (cr_all rfl) rfl T.n_all (by decide +kernel) (pa_cons (pe_lc (own := [("line", 2)]) rfl sc_Board___init__.nd (MH.pi_anyK (K := K) rfl (pv 1)) (blkOk_by (own := [("line", 2)]) (by kernel_rfl)) (fun _ _ _ _ _ => (pg_name (i := 2) sc_Board___init__.nd rfl (Or.inl rfl))) (fun _ _ _ _ _ => pts_nil) (fun _ _ _ _ _ => (pe_cmpR (r := rEqD K) (op_eqD hr.units) (pe_callB (r := MH.rLenA K C (SpF (uv w K C) 1 F_Board___len__)) (MH.call_lenA m_Board___len__ G_Board___len__ (hr.mono (by decide)) b_Board___len__) rfl T.n_len (by decide +kernel) (pa_cons (pv 2) pa_nil)) (pe_callB (r := MH.rLenA K C (SpF (uv w K C) 1 F_Board___len__)) (MH.call_lenA m_Board___len__ G_Board___len__ (hr.mono (by decide)) b_Board___len__) rfl T.n_len (by decide +kernel) (pa_cons (pe_ix (r := rIx K) ix_seq (pv 1) pe_int (fun _ _ => rfl)) pa_nil)) (nomark _)))) pa_nil)))) (pss_one ps_never) pss_nil)
  (pss_one (ps_fld (pv 0) (pv 1) rfl))))), fun mo_ => ?_⟩
  exact (rs_seq (rs_if (rt_or (rt_not (rt_B (rz_isi (u := (uv w K C).mt mo_ []) (rz_var 1) (by decide) fun n => okA T n))) (rt_not (rt_test (rz_chain rz_int (rz_cb (rz_cons (rz_var 1) rz_nil) rc_lenA) rz_int rr_le rr_le)))) rs_never rs_next)
  (rs_seq (rs_if (rt_not (rt_B (rz_cb (rz_cons (rz_frz (rzm_lc (vs := [2]) (ri_any (rz_var 1)) (rg_name 2) rt_yes (rz_call0 (rz_cons (rz_var 2) rz_nil)))) rz_nil) rc_all))) rs_never rs_next)
  (rs_seq (rs_if (rt_not (rt_B (rz_cb (rz_cons (rz_frz (rzm_lc (vs := [2]) (ri_any (rz_var 1)) (rg_name 2) rt_yes (rz_op (rz_cb (rz_cons (rz_var 2) rz_nil) rc_lenA) (rz_cb (rz_cons (rz_op (rz_var 1) rz_int rr_ix) rz_nil) rc_lenA) rr_eq))) rz_nil) rc_all))) rs_never rs_next)
  (rs_fld (u := (uv w K C).mt mo_ []) (c := 0) (rz_var 1) T.cls_Board T.na_Board_table))))
theorem ok_Board___init__ (T : Txt w K mg C) : FnX P w K mg base 4 ["self", "cells"] (SpM (uv w K C) 1 F_Board___init__) (fun f => Mk K C f) := by
  obtain ⟨f, fd, F0, m0⟩ := T.d_Board___init__
  exact ⟨f, fd, okd_Board___init__ T F0, m0, F0.kp, F0.bindsN fun _ _ _ _ _ _ us hl => match us, hl with | [_, _], _ => rfl⟩
theorem sc_is_from : FnScope ["value", "low", "high"] ["value", "low", "high"] (defScope s_is_from) := ⟨rfl, rfl, rfl, by decide +kernel, rfl, by decide +kernel, by decide +kernel⟩
def B_is_from : ML.Env → SO :=
  (retF (andV (isiF (varF 0) "int") (andV (notV (isiF (varF 0) "bool")) (chainF (varF 1) (varF 0) (varF 2) (cmpD fun i j => decide (i ≤ j)) (cmpD fun i j => decide (i ≤ j))))))
def F_is_from : List D → Rt := runF 3 B_is_from
theorem okd_is_from (T : Txt w K mg C) {f : Addr} {fd : FuncData} (F0 : FunD K "is_from" "is_from" (defArgs s_is_from) (defBody s_is_from) (defScope s_is_from) [] [] f fd) : FnOk P w K mg base CX0 1 f fd ["value", "low", "high"] (SpF (uv w K C) 3 F_is_from) := by
  refine okF (u := uv w K C) ⟨rfl, rfl⟩ F0 sc_is_from rfl fun cdv A outer s H E hr => ⟨_, (pss_one (ps_ret (pe_and (pe_callB (r := MH.rIsiA K) MH.call_isiA rfl T.n_isinstance (by decide +kernel) (pa_cons (pv 0) (pa_cons (pe_bltn (v := .ty "int") rfl T.n_int (by decide +kernel) rfl) pa_nil))) (pe_and (pe_not (pe_callB (r := MH.rIsiA K) MH.call_isiA rfl T.n_isinstance (by decide +kernel) (pa_cons (pv 0) (pa_cons (pe_bltn (v := .ty "bool") rfl T.n_bool (by decide +kernel) rfl) pa_nil)))) (pe_one (pe_chain op_le op_le (pv 1) (pv 0) (pv 2))))))), fun mo_ => ?_⟩
  exact (rs_ret (rz_and (rz_isi (u := (uv w K C).mt mo_ []) (rz_var 0) (by decide) fun n => okA T n) (rz_and (rz_not (rz_isi (u := (uv w K C).mt mo_ []) (rz_var 0) (by decide) fun n => okA T n)) (rz_chain (rz_var 1) (rz_var 0) (rz_var 2) rr_le rr_le))))
theorem ok_is_from (T : Txt w K mg C) : FnX P w K mg base 1 ["value", "low", "high"] (SpF (uv w K C) 3 F_is_from) (fun f => mg "is_from" = some (.ref f)) := by
  obtain ⟨f, fd, F0, m0⟩ := T.d_is_from
  exact ⟨f, fd, okd_is_from T F0, m0, F0.kp, F0.bindsN fun _ _ _ _ _ _ us hl => match us, hl with | [_, _, _], _ => rfl⟩
theorem sc_is_thread : FnScope ["board", "value"] ["board", "value"] (defScope s_is_thread) := ⟨rfl, rfl, rfl, by decide +kernel, rfl, by decide +kernel, by decide +kernel⟩
def B_is_thread : ML.Env → SO :=
  (retF (callF 3 (consF (varF 1) (consF (cF (.int 0)) (consF (op2F (cbF (consF (varF 0) nilF) (lenA 0 F_Board___len__)) (cF (.int 1)) subD) nilF))) F_is_from))
def F_is_thread : List D → Rt := runF 2 B_is_thread
theorem okd_is_thread (T : Txt w K mg C) {f : Addr} {fd : FuncData} (F0 : FunD K "is_thread" "is_thread" (defArgs s_is_thread) (defBody s_is_thread) (defScope s_is_thread) [] [] f fd) : FnOk P w K mg base CX0 3 f fd ["board", "value"] (SpF (uv w K C) 2 F_is_thread) := by
  obtain ⟨f_is_from, fd_is_from, G_is_from, m_is_from, k_is_from, b_is_from⟩ := ok_is_from (P := P) (w := w) (base := base) T
  obtain ⟨f_Board___len__, fd_Board___len__, G_Board___len__, m_Board___len__, k_Board___len__, b_Board___len__⟩ := ok_Board___len__ (P := P) (w := w) (base := base) T
  refine okF (u := uv w K C) ⟨rfl, rfl⟩ F0 sc_is_thread rfl fun cdv A outer s H E hr => ⟨_, (pss_one (ps_ret (pe_call G_is_from (hr.mono (by decide)) rfl m_is_from k_is_from b_is_from .nil pass0 (pa_cons (pv 1) (pa_cons pe_int (pa_cons (pe_op op_sub (pe_callB (r := MH.rLenA K C (SpF (uv w K C) 1 F_Board___len__)) (MH.call_lenA m_Board___len__ G_Board___len__ (hr.mono (by decide)) b_Board___len__) rfl T.n_len (by decide +kernel) (pa_cons (pv 0) pa_nil)) pe_int) pa_nil)))))), fun mo_ => ?_⟩
  exact (rs_ret (rz_call0 (rz_cons (rz_var 1) (rz_cons rz_int (rz_cons (rz_op (rz_cb (rz_cons (rz_var 0) rz_nil) rc_lenA) rz_int rr_sub) rz_nil)))))
theorem ok_is_thread (T : Txt w K mg C) : FnX P w K mg base 3 ["board", "value"] (SpF (uv w K C) 2 F_is_thread) (fun f => mg "is_thread" = some (.ref f)) := by
  obtain ⟨f, fd, F0, m0⟩ := T.d_is_thread
  exact ⟨f, fd, okd_is_thread T F0, m0, F0.kp, F0.bindsN fun _ _ _ _ _ _ us hl => match us, hl with | [_, _], _ => rfl⟩
theorem sc_need_thread : FnScope ["board", "thread"] ["board", "thread"] (defScope s_need_thread) := ⟨rfl, rfl, rfl, by decide +kernel, rfl, by decide +kernel, by decide +kernel⟩
def B_need_thread : ML.Env → SO :=
  (ifS (notT (testF (callF 2 (consF (varF 0) (consF (varF 1) nilF)) F_is_thread))) neverF nxF)
def F_need_thread : List D → Rt := runF 2 B_need_thread
theorem okd_need_thread (T : Txt w K mg C) {f : Addr} {fd : FuncData} (F0 : FunD K "need_thread" "need_thread" (defArgs s_need_thread) (defBody s_need_thread) (defScope s_need_thread) [] [] f fd) : FnOk P w K mg base CX0 4 f fd ["board", "thread"] (SpF (uv w K C) 2 F_need_thread) := by
  obtain ⟨f_is_thread, fd_is_thread, G_is_thread, m_is_thread, k_is_thread, b_is_thread⟩ := ok_is_thread (P := P) (w := w) (base := base) T
  refine okF (u := uv w K C) ⟨rfl, rfl⟩ F0 sc_need_thread rfl fun cdv A outer s H E hr => ⟨_, (pss_one (ps_if (pt_not (pt_val (pe_call G_is_thread (hr.mono (by decide)) rfl m_is_thread k_is_thread b_is_thread .nil pass0 (pa_cons (pv 0) (pa_cons (pv 1) pa_nil))))) (pss_one ps_never) pss_nil)), fun mo_ => ?_⟩
  exact (rs_if (rt_not (rt_B (rz_call0 (rz_cons (rz_var 0) (rz_cons (rz_var 1) rz_nil))))) rs_never rs_next)
theorem ok_need_thread (T : Txt w K mg C) : FnX P w K mg base 4 ["board", "thread"] (SpF (uv w K C) 2 F_need_thread) (fun f => mg "need_thread" = some (.ref f)) := by
  obtain ⟨f, fd, F0, m0⟩ := T.d_need_thread
  exact ⟨f, fd, okd_need_thread T F0, m0, F0.kp, F0.bindsN fun _ _ _ _ _ _ us hl => match us, hl with | [_, _], _ => rfl⟩
theorem sc_Desk_set_state : FnScope ["self", "board", "load", "wires"] ["self", "board", "load", "wires"] (defScope s_Desk_set_state) := ⟨rfl, rfl, rfl, by decide +kernel, rfl, by decide +kernel, by decide +kernel⟩
def B_Desk_set_state : ML.Env → SO :=
  (seqF (sfldF 0 1 "past" (tupF (starF (pfldF 0 1 "past") (consF (tupF (consF (varF 1) (consF (varF 2) (consF (varF 3) (consF (callF 2 (consF (varF 1) (consF (varF 3) nilF)) F_strengths_of) nilF))))) nilF))))
  (sfldF 0 1 "undone" (tupF nilF)))
def F_Desk_set_state : D → List D → RtM := runM 4 B_Desk_set_state
theorem okd_Desk_set_state (T : Txt w K mg C) {f : Addr} {fd : FuncData} (F0 : FunD K "set_state" "Desk.set_state" (defArgs s_Desk_set_state) (defBody s_Desk_set_state) (defScope s_Desk_set_state) [] [] f fd) : FnOk P w K mg base CX0 6 f fd ["self", "board", "load", "wires"] (SpM (uv w K C) 3 F_Desk_set_state) := by
  obtain ⟨f_strengths_of, fd_strengths_of, G_strengths_of, m_strengths_of, k_strengths_of, b_strengths_of⟩ := ok_strengths_of (P := P) (w := w) (base := base) T
  refine okM (u := uv w K C) ⟨rfl, rfl⟩ F0 sc_Desk_set_state rfl rfl fun cdv A outer s H E hr => ⟨_, (pss_cons (ps_fld (pv 0) (pe_tup (MH.pa_starK (K := K) rfl rfl (MH.pe_fldK (K := K) rfl (pv 0) rfl) (pa_cons (pe_tup (pa_cons (pv 1) (pa_cons (pv 2) (pa_cons (pv 3) (pa_cons (pe_call G_strengths_of (hr.mono (by decide)) rfl m_strengths_of k_strengths_of b_strengths_of .nil pass0 (pa_cons (pv 1) (pa_cons (pv 3) pa_nil))) pa_nil))))) pa_nil))) rfl)
  (pss_one (ps_fld (pv 0) (pe_tup pa_nil) rfl))), fun mo_ => ?_⟩
  exact (rs_seq (rs_fld (u := (uv w K C).mt mo_ []) (c := 1) (rz_tup (rz_star (rz_pfld (u := (uv w K C).mt mo_ []) (c := 1) T.cls_Desk T.na_Desk_past) (rz_cons (rz_tup (rz_cons (rz_var 1) (rz_cons (rz_var 2) (rz_cons (rz_var 3) (rz_cons (rz_call0 (rz_cons (rz_var 1) (rz_cons (rz_var 3) rz_nil))) rz_nil))))) rz_nil))) T.cls_Desk T.na_Desk_past)
  (rs_fld (u := (uv w K C).mt mo_ []) (c := 1) (rz_tup rz_nil) T.cls_Desk T.na_Desk_undone))
theorem ok_Desk_set_state (T : Txt w K mg C) : FnX P w K mg base 6 ["self", "board", "load", "wires"] (SpM (uv w K C) 3 F_Desk_set_state) (fun f => Meth K (He.ga K "Desk") "set_state" f) := by
  obtain ⟨f, fd, F0, m0⟩ := T.d_Desk_set_state
  exact ⟨f, fd, okd_Desk_set_state T F0, m0, F0.kp, F0.bindsN fun _ _ _ _ _ _ us hl => match us, hl with | [_, _, _, _], _ => rfl⟩
theorem sc_Desk_shift : FnScope ["self", "one", "other", "number", "board", "load", "wires", "found"] ["self", "one", "other", "number"] (defScope s_Desk_shift) := ⟨rfl, rfl, rfl, by decide +kernel, rfl, by decide +kernel, by decide +kernel⟩
def B_Desk_shift : ML.Env → SO :=
  (seqF (asgF (slF (op2F (pfldF 0 1 "past") (op1F (cF (.int 1)) negD) ixD) noPF (partF (cF (.int 3)))) (gtupF 3 (gconsF (gnF 4) (gconsF (gnF 5) (gconsF (gnF 6) gnilF)))))
  (seqF (dropF (callF 2 (consF (varF 4) (consF (varF 1) nilF)) F_need_thread))
  (seqF (dropF (callF 2 (consF (varF 4) (consF (varF 2) nilF)) F_need_thread))
  (seqF (ifS (notT (testF (callF 3 (consF (varF 3) (consF (op1F (cF (.int 20)) negD) (consF (cF (.int 20)) nilF))) F_is_from))) neverF nxF)
  (seqF (setM (listM (consF (varF 5) nilF)) 7)
  (seqF (setIF 7 (op2F (ixPF 7 (varF 1)) (varF 3) addD) (varF 1))
  (seqF (setIF 7 (op2F (ixPF 7 (varF 2)) (varF 3) subD) (varF 2))
  (seqF (ifS (orT (testF (op2F (cbF (consF (varF 7) nilF) maxTD) (cF (.int 20)) (cmpD fun i j => decide (j < i)))) (testF (op2F (cbF (consF (varF 7) nilF) minTD) (op1F (cF (.int 20)) negD) (cmpD fun i j => decide (i < j))))) neverF nxF)
  (dropF (methMF 3 0 1 "set_state" (consF (varF 4) (consF (cbF (consF (varF 7) nilF) tupleD) (consF (varF 6) nilF))) F_Desk_set_state))))))))))
def F_Desk_shift : D → List D → RtM := runM 8 B_Desk_shift
theorem okd_Desk_shift (T : Txt w K mg C) {f : Addr} {fd : FuncData} (F0 : FunD K "shift" "Desk.shift" (defArgs s_Desk_shift) (defBody s_Desk_shift) (defScope s_Desk_shift) [] [] f fd) : FnOk P w K mg base CX0 8 f fd ["self", "one", "other", "number"] (SpM (uv w K C) 3 F_Desk_shift) := by
  obtain ⟨f_need_thread, fd_need_thread, G_need_thread, m_need_thread, k_need_thread, b_need_thread⟩ := ok_need_thread (P := P) (w := w) (base := base) T
  obtain ⟨f_is_from, fd_is_from, G_is_from, m_is_from, k_is_from, b_is_from⟩ := ok_is_from (P := P) (w := w) (base := base) T
  obtain ⟨f_Desk_set_state, fd_Desk_set_state, G_Desk_set_state, m_Desk_set_state, k_Desk_set_state, b_Desk_set_state⟩ := ok_Desk_set_state (P := P) (w := w) (base := base) T
  obtain ⟨t_MOST_LOAD, c_MOST_LOAD⟩ := T.c_MOST_LOAD
  refine okM (u := uv w K C) ⟨rfl, rfl⟩ F0 sc_Desk_shift rfl rfl fun cdv A outer s H E hr => ⟨_, (pss_cons (ps_asg (pe_slice (r := MH.rSlAll K) MH.sl_all (pe_ix (r := rIx K) ix_seq (MH.pe_fldK (K := K) rfl (pv 0) rfl) (pe_un un_neg pe_int) (fun _ _ => rfl)) po_none (po_some pe_int)) (MH.pg_tupK (K := K) (n := 3) rfl rfl (pgs_cons (pg_name (i := 4) sc_Desk_shift.nd rfl (Or.inl rfl)) (pgs_cons (pg_name (i := 5) sc_Desk_shift.nd rfl (Or.inl rfl)) (pgs_cons (pg_name (i := 6) sc_Desk_shift.nd rfl (Or.inl rfl)) pgs_nil)))))
  (pss_cons (ps_expr (pe_call G_need_thread (hr.mono (by decide)) rfl m_need_thread k_need_thread b_need_thread .nil pass0 (pa_cons (pv 4) (pa_cons (pv 1) pa_nil))))
  (pss_cons (ps_expr (pe_call G_need_thread (hr.mono (by decide)) rfl m_need_thread k_need_thread b_need_thread .nil pass0 (pa_cons (pv 4) (pa_cons (pv 2) pa_nil))))
  (pss_cons (ps_if (pt_not (pt_val (pe_call G_is_from (hr.mono (by decide)) rfl m_is_from k_is_from b_is_from .nil pass0 (pa_cons (pv 3) (pa_cons (pe_un un_neg (pe_glob (v := .int 20) rfl c_MOST_LOAD ⟨_, rfl⟩)) (pa_cons (pe_glob (v := .int 20) rfl c_MOST_LOAD ⟨_, rfl⟩) pa_nil)))))) (pss_one ps_never) pss_nil)
  (pss_cons (ps_set (i := 7) sc_Desk_shift.nd rfl (Or.inl rfl) (pe_callTy (r := MH.rList K) call_list_of rfl T.n_list (by decide +kernel) (pa_cons (pv 5) pa_nil)))
  (pss_cons (ps_asg (pe_op (r := MH.rAddA K) MH.op_addA (pe_ix (r := rIx K) ix_seq (pv 7) (pv 1) (fun _ _ => rfl)) (pv 3)) (pg_sub (pv 7) (pv 1) set_list))
  (pss_cons (ps_asg (pe_op op_sub (pe_ix (r := rIx K) ix_seq (pv 7) (pv 2) (fun _ _ => rfl)) (pv 3)) (pg_sub (pv 7) (pv 2) set_list))
  (pss_cons (ps_if (PW.pt (pw_or (pt_cmpR op_gt (pe_callB (r := MH.rMaxT K) (MH.cr_maxT rfl) rfl T.n_max (by decide +kernel) (pa_cons (pv 7) pa_nil)) (pe_glob (v := .int 20) rfl c_MOST_LOAD ⟨_, rfl⟩) (nomark _)) (pw_or1 (pt_cmpR op_lt (pe_callB (r := MH.rMinT K) (MH.cr_minT hr rfl) rfl T.n_min (by decide +kernel) (pa_cons (pv 7) pa_nil)) (pe_un un_neg (pe_glob (v := .int 20) rfl c_MOST_LOAD ⟨_, rfl⟩)) (nomark _))))) (pss_one ps_never) pss_nil)
  (pss_one (ps_expr (pe_meth (pv 0) T.cls_Desk m_Desk_set_state G_Desk_set_state (hr.mono (by decide)) b_Desk_set_state .nil pass0 (pa_cons (pv 4) (pa_cons (pe_callTy (r := MH.rTuple K) call_tuple_of rfl T.n_tuple (by decide +kernel) (pa_cons (pv 7) pa_nil)) (pa_cons (pv 6) pa_nil)))))))))))))), fun mo_ => ?_⟩
  exact (rs_seq (rs_asg (b := [0]) (rz_slice (rz_op (rz_pfld (u := (uv w K C).mt mo_ []) (c := 1) T.cls_Desk T.na_Desk_past) (rz_un rz_int ru_neg) rr_ix) ro_none (ro_some rz_int)) (rg_tup (rgs_cons (rg_name 4) (rgs_cons (rg_name 5) (rgs_cons (rg_name 6) rgs_nil)))))
  (rs_seq (rs_drop (rz_call0 (rz_cons (rz_var 4) (rz_cons (rz_var 1) rz_nil))))
  (rs_seq (rs_drop (rz_call0 (rz_cons (rz_var 4) (rz_cons (rz_var 2) rz_nil))))
  (rs_seq (rs_if (rt_not (rt_B (rz_call0 (rz_cons (rz_var 3) (rz_cons (rz_un rz_int ru_neg) (rz_cons rz_int rz_nil)))))) rs_never rs_next)
  (rs_seq (rs_setM (b := [0]) (rzm_list (rz_cons (rz_var 5) rz_nil)))
  (rs_seq (rs_setI (rz_op (rz_ixP (rz_var 1)) (rz_var 3) rr_add) (rz_var 1))
  (rs_seq (rs_setI (rz_op (rz_ixP (rz_var 2)) (rz_var 3) rr_sub) (rz_var 2))
  (rs_seq (rs_if (rt_or (rt_test (rz_op (rz_cb (rz_cons (rz_var 7) rz_nil) rc_maxT) rz_int rr_gt)) (rt_test (rz_op (rz_cb (rz_cons (rz_var 7) rz_nil) rc_minT) (rz_un rz_int ru_neg) rr_lt))) rs_never rs_next)
  (rs_drop (rz_methM (u := (uv w K C).mt mo_ []) (c := 1) (rz_cons (rz_var 4) (rz_cons (rz_cb (rz_cons (rz_var 7) rz_nil) rc_tuple) (rz_cons (rz_var 6) rz_nil)))))))))))))
theorem ok_Desk_shift (T : Txt w K mg C) : FnX P w K mg base 8 ["self", "one", "other", "number"] (SpM (uv w K C) 3 F_Desk_shift) (fun f => Meth K (He.ga K "Desk") "shift" f) := by
  obtain ⟨f, fd, F0, m0⟩ := T.d_Desk_shift
  exact ⟨f, fd, okd_Desk_shift T F0, m0, F0.kp, F0.bindsN fun _ _ _ _ _ _ us hl => match us, hl with | [_, _, _, _], _ => rfl⟩
theorem sc__law_taken : FnScope ["_law_row", "_law_many", "_law_found", "_law_cell"] ["_law_row", "_law_many"] (defScope s__law_taken) := ⟨rfl, rfl, rfl, by decide +kernel, rfl, by decide +kernel, by decide +kernel⟩
def B__law_taken : ML.Env → SO :=
  (seqF (ifS (testF (op2F (ixPF 0 (cF (.int 3))) (cF (.int 0)) (cmpD fun i j => decide (j < i)))) (seqF (asgF (op2F (cbF (consF (ixPF 0 (cF (.int 3))) nilF) intD) (varF 1) modD) (gnF 2))
  (seqF (setIF 0 (op2F (ixPF 0 (cF (.int 3))) (varF 1) fdivD) (cF (.int 3)))
  (retF (varF 2)))) nxF)
  (seqF (setIF 0 (op2F (ixPF 0 (cF (.int 1))) (cF (.int 1)) addD) (cF (.int 1)))
  (seqF (ifS (testF (op2F (ixPF 0 (cF (.int 1))) (cbF (consF (ixPF 0 (cF (.int 0))) nilF) (lenA 0 F_Board___len__)) (cmpD fun i j => decide (j < i)))) (seqF (setIF 0 (op2F (cbF (consF (op2F (op2F (ixPF 0 (cF (.int 2))) (cF (.int 48271)) mulD) (cF (.int 11)) addD) nilF) intD) (cF (.int 2147483647)) modD) (cF (.int 2)))
  (retF (op2F (cbF (consF (op2F (ixPF 0 (cF (.int 2))) (cF (.int 7)) fdivD) nilF) intD) (varF 1) modD))) nxF)
  (seqF (asgF (op2F (ixPF 0 (cF (.int 0))) (op2F (ixPF 0 (cF (.int 1))) (cF (.int 1)) subD) ixD) (gnF 3))
  (seqF (setIF 0 (op2F (cbF (consF (op2F (op2F (op2F (ixPF 0 (cF (.int 2))) (cF (.int 48271)) mulD) (varF 3) addD) (cF (.int 11)) addD) nilF) intD) (cF (.int 2147483647)) modD) (cF (.int 2)))
  (seqF (ifS (testF (op2F (varF 3) (op2F (cF (.int 10)) (cF (.int 18)) powD) (cmpD fun i j => decide (j ≤ i)))) (setIF 0 (op2F (varF 3) (varF 1) fdivD) (cF (.int 3))) nxF)
  (retF (op2F (cbF (consF (varF 3) nilF) intD) (varF 1) modD))))))))
def F__law_taken : D → List D → RtM := runM 4 B__law_taken
theorem okd__law_taken (T : Txt w K mg C) {f : Addr} {fd : FuncData} (F0 : FunD K "_law_taken" "_law_taken" (defArgs s__law_taken) (defBody s__law_taken) (defScope s__law_taken) [] [] f fd) : FnOk P w K mg base CX0 3 f fd ["_law_row", "_law_many"] (SpM (uv w K C) 1 F__law_taken) := by
  obtain ⟨f_Board___len__, fd_Board___len__, G_Board___len__, m_Board___len__, k_Board___len__, b_Board___len__⟩ := ok_Board___len__ (P := P) (w := w) (base := base) T
  refine okM (u := uv w K C) ⟨rfl, rfl⟩ F0 sc__law_taken rfl rfl fun cdv A outer s H E hr => ⟨_, (pss_cons (ps_if (pt_cmpR op_gt (pe_ix (r := rIx K) ix_seq (pv 0) pe_int (fun _ _ => rfl)) pe_int (nomark _)) (pss_cons (ps_set (i := 2) sc__law_taken.nd rfl (Or.inl rfl) (pe_op op_mod (pe_callTy call_int1 rfl T.n_int (by decide +kernel) (pa_cons (pe_ix (r := rIx K) ix_seq (pv 0) pe_int (fun _ _ => rfl)) pa_nil)) (pv 1)))
  (pss_cons (ps_asg (pe_op op_fdiv (pe_ix (r := rIx K) ix_seq (pv 0) pe_int (fun _ _ => rfl)) (pv 1)) (pg_sub (pv 0) pe_int set_list))
  (pss_one (ps_ret (pv 2))))) pss_nil)
  (pss_cons (ps_asg (pe_op (r := MH.rAddA K) MH.op_addA (pe_ix (r := rIx K) ix_seq (pv 0) pe_int (fun _ _ => rfl)) pe_int) (pg_sub (pv 0) pe_int set_list))
  (pss_cons (ps_if (pt_cmpR op_gt (pe_ix (r := rIx K) ix_seq (pv 0) pe_int (fun _ _ => rfl)) (pe_callB (r := MH.rLenA K C (SpF (uv w K C) 1 F_Board___len__)) (MH.call_lenA m_Board___len__ G_Board___len__ (hr.mono (by decide)) b_Board___len__) rfl T.n_len (by decide +kernel) (pa_cons (pe_ix (r := rIx K) ix_seq (pv 0) pe_int (fun _ _ => rfl)) pa_nil)) (nomark _)) (pss_cons (ps_asg (pe_op op_mod (pe_callTy call_int1 rfl T.n_int (by decide +kernel) (pa_cons (pe_op (r := MH.rAddA K) MH.op_addA (pe_op (r := MH.rMulA K) MH.op_mulA (pe_ix (r := rIx K) ix_seq (pv 0) pe_int (fun _ _ => rfl)) pe_int) pe_int) pa_nil)) pe_int) (pg_sub (pv 0) pe_int set_list))
  (pss_one (ps_ret (pe_op op_mod (pe_callTy call_int1 rfl T.n_int (by decide +kernel) (pa_cons (pe_op op_fdiv (pe_ix (r := rIx K) ix_seq (pv 0) pe_int (fun _ _ => rfl)) pe_int) pa_nil)) (pv 1))))) pss_nil)
  (pss_cons (ps_set (i := 3) sc__law_taken.nd rfl (Or.inl rfl) (pe_ix (r := rIx K) ix_seq (pe_ix (r := rIx K) ix_seq (pv 0) pe_int (fun _ _ => rfl)) (pe_op op_sub (pe_ix (r := rIx K) ix_seq (pv 0) pe_int (fun _ _ => rfl)) pe_int) (fun _ _ => rfl)))
  (pss_cons (ps_asg (pe_op op_mod (pe_callTy call_int1 rfl T.n_int (by decide +kernel) (pa_cons (pe_op (r := MH.rAddA K) MH.op_addA (pe_op (r := MH.rAddA K) MH.op_addA (pe_op (r := MH.rMulA K) MH.op_mulA (pe_ix (r := rIx K) ix_seq (pv 0) pe_int (fun _ _ => rfl)) pe_int) (pv 3)) pe_int) pa_nil)) pe_int) (pg_sub (pv 0) pe_int set_list))
  (pss_cons (ps_if (pt_cmpR op_ge (pv 3) (pe_op op_pow pe_int pe_int) (nomark _)) (pss_one (ps_asg (pe_op op_fdiv (pv 3) (pv 1)) (pg_sub (pv 0) pe_int set_list))) pss_nil)
  (pss_one (ps_ret (pe_op op_mod (pe_callTy call_int1 rfl T.n_int (by decide +kernel) (pa_cons (pv 3) pa_nil)) (pv 1)))))))))), fun mo_ => ?_⟩
  exact (rs_seq (rs_if (rt_test (rz_op (rz_ixP rz_int) rz_int rr_gt)) (rs_seq (rs_asg (b := [0]) (rz_op (rz_cb (rz_cons (rz_ixP rz_int) rz_nil) rc_int) (rz_var 1) rr_mod) (rg_name 2))
  (rs_seq (rs_setI (rz_op (rz_ixP rz_int) (rz_var 1) rr_fdiv) rz_int)
  (rs_ret (rz_var 2)))) rs_next)
  (rs_seq (rs_setI (rz_op (rz_ixP rz_int) rz_int rr_add) rz_int)
  (rs_seq (rs_if (rt_test (rz_op (rz_ixP rz_int) (rz_cb (rz_cons (rz_ixP rz_int) rz_nil) rc_lenA) rr_gt)) (rs_seq (rs_setI (rz_op (rz_cb (rz_cons (rz_op (rz_op (rz_ixP rz_int) rz_int rr_mul) rz_int rr_add) rz_nil) rc_int) rz_int rr_mod) rz_int)
  (rs_ret (rz_op (rz_cb (rz_cons (rz_op (rz_ixP rz_int) rz_int rr_fdiv) rz_nil) rc_int) (rz_var 1) rr_mod))) rs_next)
  (rs_seq (rs_asg (b := [0]) (rz_op (rz_ixP rz_int) (rz_op (rz_ixP rz_int) rz_int rr_sub) rr_ix) (rg_name 3))
  (rs_seq (rs_setI (rz_op (rz_cb (rz_cons (rz_op (rz_op (rz_op (rz_ixP rz_int) rz_int rr_mul) (rz_var 3) rr_add) rz_int rr_add) rz_nil) rc_int) rz_int rr_mod) rz_int)
  (rs_seq (rs_if (rt_test (rz_op (rz_var 3) (rz_op rz_int rz_int rr_pow) rr_ge)) (rs_setI (rz_op (rz_var 3) (rz_var 1) rr_fdiv) rz_int) rs_next)
  (rs_ret (rz_op (rz_cb (rz_cons (rz_var 3) rz_nil) rc_int) (rz_var 1) rr_mod))))))))
theorem ok__law_taken (T : Txt w K mg C) : FnX P w K mg base 3 ["_law_row", "_law_many"] (SpM (uv w K C) 1 F__law_taken) (fun f => mg "_law_taken" = some (.ref f)) := by
  obtain ⟨f, fd, F0, m0⟩ := T.d__law_taken
  exact ⟨f, fd, okd__law_taken T F0, m0, F0.kp, F0.bindsN fun _ _ _ _ _ _ us hl => match us, hl with | [_, _], _ => rfl⟩
theorem sc_Board_cells : FnScope ["self"] ["self"] (defScope s_Board_cells) := ⟨rfl, rfl, rfl, by decide +kernel, rfl, by decide +kernel, by decide +kernel⟩
def B_Board_cells : ML.Env → SO :=
  (retF (fldF (varF 0) 0 "table"))
def F_Board_cells : List D → Rt := runF 1 B_Board_cells
theorem okd_Board_cells (T : Txt w K mg C) {f : Addr} {fd : FuncData} (F0 : FunD K "cells" "Board.cells" (defArgs s_Board_cells) (defBody s_Board_cells) (defScope s_Board_cells) [] [] f fd) : FnOk P w K mg base CX0 1 f fd ["self"] (SpF (uv w K C) 1 F_Board_cells) := by
  refine okF (u := uv w K C) ⟨rfl, rfl⟩ F0 sc_Board_cells rfl fun cdv A outer s H E hr => ⟨_, (pss_one (ps_ret (MH.pe_fldK (K := K) rfl (pv 0) rfl))), fun mo_ => ?_⟩
  exact (rs_ret (rz_fld (u := (uv w K C).mt mo_ []) (c := 0) (rz_var 0) T.cls_Board T.na_Board_table))
theorem ok_Board_cells (T : Txt w K mg C) : FnX P w K mg base 1 ["self"] (SpF (uv w K C) 1 F_Board_cells) (fun f => ∃ p, PropOf K C "cells" p f) := by
  obtain ⟨f, fd, F0, m0⟩ := T.d_Board_cells
  exact ⟨f, fd, okd_Board_cells T F0, m0, F0.kp, F0.bindsN fun _ _ _ _ _ _ us hl => match us, hl with | [_], _ => rfl⟩
theorem sc_Desk_own_load : FnScope ["self"] ["self"] (defScope s_Desk_own_load) := ⟨rfl, rfl, rfl, by decide +kernel, rfl, by decide +kernel, by decide +kernel⟩
def B_Desk_own_load : ML.Env → SO :=
  (retF (op2F (op2F (pfldF 0 1 "past") (op1F (cF (.int 1)) negD) ixD) (cF (.int 1)) ixD))
def F_Desk_own_load : D → List D → RtM := runM 1 B_Desk_own_load
theorem okd_Desk_own_load (T : Txt w K mg C) {f : Addr} {fd : FuncData} (F0 : FunD K "own_load" "Desk.own_load" (defArgs s_Desk_own_load) (defBody s_Desk_own_load) (defScope s_Desk_own_load) [] [] f fd) : FnOk P w K mg base CX0 1 f fd ["self"] (SpM (uv w K C) 0 F_Desk_own_load) := by
  refine okM (u := uv w K C) ⟨rfl, rfl⟩ F0 sc_Desk_own_load rfl rfl fun cdv A outer s H E hr => ⟨_, (pss_one (ps_ret (pe_ix (r := rIx K) ix_seq (pe_ix (r := rIx K) ix_seq (MH.pe_fldK (K := K) rfl (pv 0) rfl) (pe_un un_neg pe_int) (fun _ _ => rfl)) pe_int (fun _ _ => rfl)))), fun mo_ => ?_⟩
  exact (rs_ret (rz_op (rz_op (rz_pfld (u := (uv w K C).mt mo_ []) (c := 1) T.cls_Desk T.na_Desk_past) (rz_un rz_int ru_neg) rr_ix) rz_int rr_ix))
theorem ok_Desk_own_load (T : Txt w K mg C) : FnX P w K mg base 1 ["self"] (SpM (uv w K C) 0 F_Desk_own_load) (fun f => ∃ p, PropOf K (He.ga K "Desk") "own_load" p f) := by
  obtain ⟨f, fd, F0, m0⟩ := T.d_Desk_own_load
  exact ⟨f, fd, okd_Desk_own_load T F0, m0, F0.kp, F0.bindsN fun _ _ _ _ _ _ us hl => match us, hl with | [_], _ => rfl⟩
theorem sc_Desk_own_strengths : FnScope ["self"] ["self"] (defScope s_Desk_own_strengths) := ⟨rfl, rfl, rfl, by decide +kernel, rfl, by decide +kernel, by decide +kernel⟩
def B_Desk_own_strengths : ML.Env → SO :=
  (retF (op2F (op2F (pfldF 0 1 "past") (op1F (cF (.int 1)) negD) ixD) (cF (.int 3)) ixD))
def F_Desk_own_strengths : D → List D → RtM := runM 1 B_Desk_own_strengths
theorem okd_Desk_own_strengths (T : Txt w K mg C) {f : Addr} {fd : FuncData} (F0 : FunD K "own_strengths" "Desk.own_strengths" (defArgs s_Desk_own_strengths) (defBody s_Desk_own_strengths) (defScope s_Desk_own_strengths) [] [] f fd) : FnOk P w K mg base CX0 1 f fd ["self"] (SpM (uv w K C) 0 F_Desk_own_strengths) := by
  refine okM (u := uv w K C) ⟨rfl, rfl⟩ F0 sc_Desk_own_strengths rfl rfl fun cdv A outer s H E hr => ⟨_, (pss_one (ps_ret (pe_ix (r := rIx K) ix_seq (pe_ix (r := rIx K) ix_seq (MH.pe_fldK (K := K) rfl (pv 0) rfl) (pe_un un_neg pe_int) (fun _ _ => rfl)) pe_int (fun _ _ => rfl)))), fun mo_ => ?_⟩
  exact (rs_ret (rz_op (rz_op (rz_pfld (u := (uv w K C).mt mo_ []) (c := 1) T.cls_Desk T.na_Desk_past) (rz_un rz_int ru_neg) rr_ix) rz_int rr_ix))
theorem ok_Desk_own_strengths (T : Txt w K mg C) : FnX P w K mg base 1 ["self"] (SpM (uv w K C) 0 F_Desk_own_strengths) (fun f => ∃ p, PropOf K (He.ga K "Desk") "own_strengths" p f) := by
  obtain ⟨f, fd, F0, m0⟩ := T.d_Desk_own_strengths
  exact ⟨f, fd, okd_Desk_own_strengths T F0, m0, F0.kp, F0.bindsN fun _ _ _ _ _ _ us hl => match us, hl with | [_], _ => rfl⟩
theorem sc_Desk___len__ : FnScope ["self"] ["self"] (defScope s_Desk___len__) := ⟨rfl, rfl, rfl, by decide +kernel, rfl, by decide +kernel, by decide +kernel⟩
def B_Desk___len__ : ML.Env → SO :=
  (retF (cbF (consF (slF (pfldF 0 1 "past") (partF (cF (.int 1))) noPF) nilF) (lenA 0 F_Board___len__)))
def F_Desk___len__ : D → List D → RtM := runM 1 B_Desk___len__
theorem okd_Desk___len__ (T : Txt w K mg C) {f : Addr} {fd : FuncData} (F0 : FunD K "__len__" "Desk.__len__" (defArgs s_Desk___len__) (defBody s_Desk___len__) (defScope s_Desk___len__) [] [] f fd) : FnOk P w K mg base CX0 3 f fd ["self"] (SpM (uv w K C) 0 F_Desk___len__) := by
  obtain ⟨f_Board___len__, fd_Board___len__, G_Board___len__, m_Board___len__, k_Board___len__, b_Board___len__⟩ := ok_Board___len__ (P := P) (w := w) (base := base) T
  refine okM (u := uv w K C) ⟨rfl, rfl⟩ F0 sc_Desk___len__ rfl rfl fun cdv A outer s H E hr => ⟨_, (pss_one (ps_ret (pe_callB (r := MH.rLenA K C (SpF (uv w K C) 1 F_Board___len__)) (MH.call_lenA m_Board___len__ G_Board___len__ (hr.mono (by decide)) b_Board___len__) rfl T.n_len (by decide +kernel) (pa_cons (pe_slice (r := MH.rSlAll K) MH.sl_all (MH.pe_fldK (K := K) rfl (pv 0) rfl) (po_some pe_int) po_none) pa_nil)))), fun mo_ => ?_⟩
  exact (rs_ret (rz_cb (rz_cons (rz_slice (rz_pfld (u := (uv w K C).mt mo_ []) (c := 1) T.cls_Desk T.na_Desk_past) (ro_some rz_int) ro_none) rz_nil) rc_lenA))
theorem ok_Desk___len__ (T : Txt w K mg C) : FnX P w K mg base 3 ["self"] (SpM (uv w K C) 0 F_Desk___len__) (fun f => Meth K (He.ga K "Desk") "__len__" f) := by
  obtain ⟨f, fd, F0, m0⟩ := T.d_Desk___len__
  exact ⟨f, fd, okd_Desk___len__ T F0, m0, F0.kp, F0.bindsN fun _ _ _ _ _ _ us hl => match us, hl with | [_], _ => rfl⟩
theorem sc_Desk_need_cell_xBadColumnBadRow : FnScope ["self", "row", "column", "board"] ["self", "row", "column"] (defScope s_Desk_need_cell_xBadColumnBadRow) := ⟨rfl, rfl, rfl, by decide +kernel, rfl, by decide +kernel, by decide +kernel⟩
def B_Desk_need_cell_xBadColumnBadRow : ML.Env → SO :=
  (seqF (asgF (op2F (op2F (pfldF 0 1 "past") (op1F (cF (.int 1)) negD) ixD) (cF (.int 0)) ixD) (gnF 3))
  (seqF (ifS (notT (testF (callF 3 (consF (varF 1) (consF (cF (.int 0)) (consF (op2F (propF (varF 3) 0 F_Board_rows) (cF (.int 1)) subD) nilF))) F_is_from))) (raise0F 27) nxF)
  (ifS (notT (testF (callF 3 (consF (varF 2) (consF (cF (.int 0)) (consF (op2F (propF (varF 3) 0 F_Board_columns) (cF (.int 1)) subD) nilF))) F_is_from))) (raise0F 8) nxF)))
def F_Desk_need_cell_xBadColumnBadRow : D → List D → RtU := runU 4 B_Desk_need_cell_xBadColumnBadRow
theorem okd_Desk_need_cell_xBadColumnBadRow (T : Txt w K mg C) {f : Addr} {fd : FuncData} (F0 : FunD K "need_cell" "Desk.need_cell" (defArgs s_Desk_need_cell_xBadColumnBadRow) (defBody s_Desk_need_cell_xBadColumnBadRow) (defScope s_Desk_need_cell_xBadColumnBadRow) [] [] f fd) : FnOk P w K mg base (L2.CX P w) 5 f fd ["self", "row", "column"] (SpU (uv w K C) 2 F_Desk_need_cell_xBadColumnBadRow) := by
  obtain ⟨f_is_from, fd_is_from, G_is_from, m_is_from, k_is_from, b_is_from⟩ := ok_is_from (P := P) (w := w) (base := base) T
  obtain ⟨f_Board_rows, fd_Board_rows, G_Board_rows, ⟨p_Board_rows, m_Board_rows⟩, k_Board_rows, b_Board_rows⟩ := ok_Board_rows (P := P) (w := w) (base := base) T
  obtain ⟨f_Board_columns, fd_Board_columns, G_Board_columns, ⟨p_Board_columns, m_Board_columns⟩, k_Board_columns, b_Board_columns⟩ := ok_Board_columns (P := P) (w := w) (base := base) T
  refine okU (u := uv w K C) ⟨rfl, rfl⟩ F0 sc_Desk_need_cell_xBadColumnBadRow rfl rfl fun cdv A outer s H E hr tk hp => ⟨_, (pss_cons (ps_set (i := 3) sc_Desk_need_cell_xBadColumnBadRow.nd rfl (Or.inl rfl) (pe_ix (r := rIx K) ix_seq (pe_ix (r := rIx K) ix_seq (MH.pe_fldK (K := K) rfl (pv 0) rfl) (pe_un un_neg pe_int) (fun _ _ => rfl)) pe_int (fun _ _ => rfl)))
  (pss_cons (ps_if (pt_not (pt_val (pe_call G_is_from (hr.mono (by decide)) rfl m_is_from k_is_from b_is_from .nil pass0 (pa_cons (pv 1) (pa_cons pe_int (pa_cons (pe_op op_sub (MH.pe_propK (K := K) rfl (pv 3) T.cls_Board m_Board_rows G_Board_rows (hr.mono (by decide)) b_Board_rows pass0 rfl) pe_int) pa_nil)))))) (pss_one (ps_raise0 tk T.x_BadRow (oke_BadRow T) (hr.mono (by decide)) rfl rfl)) pss_nil)
  (pss_one (ps_if (pt_not (pt_val (pe_call G_is_from (hr.mono (by decide)) rfl m_is_from k_is_from b_is_from .nil pass0 (pa_cons (pv 2) (pa_cons pe_int (pa_cons (pe_op op_sub (MH.pe_propK (K := K) rfl (pv 3) T.cls_Board m_Board_columns G_Board_columns (hr.mono (by decide)) b_Board_columns pass0 rfl) pe_int) pa_nil)))))) (pss_one (ps_raise0 tk T.x_BadColumn (oke_BadColumn T) (hr.mono (by decide)) rfl rfl)) pss_nil)))), fun mo_ => ?_⟩
  exact (rs_seq (rs_asg (b := [0]) (rz_op (rz_op (rz_pfld (u := (uv w K C).mt mo_ []) (c := 1) T.cls_Desk T.na_Desk_past) (rz_un rz_int ru_neg) rr_ix) rz_int rr_ix) (rg_name 3))
  (rs_seq (rs_if (rt_not (rt_B (rz_callN runF_nx (rz_cons (rz_var 1) (rz_cons rz_int (rz_cons (rz_op (rz_propN (u := (uv w K C).mt mo_ []) (c := 0) runF_nx (rz_var 3)) rz_int rr_sub) rz_nil)))))) (rs_raise0 (u := (uv w K C).mt mo_ []) (c := 27) rfl) rs_next)
  (rs_if (rt_not (rt_B (rz_callN runF_nx (rz_cons (rz_var 2) (rz_cons rz_int (rz_cons (rz_op (rz_propN (u := (uv w K C).mt mo_ []) (c := 0) runF_nx (rz_var 3)) rz_int rr_sub) rz_nil)))))) (rs_raise0 (u := (uv w K C).mt mo_ []) (c := 8) rfl) rs_next)))
theorem ok_Desk_need_cell_xBadColumnBadRow (T : Txt w K mg C) : FnXX P w K mg base 5 ["self", "row", "column"] (SpU (uv w K C) 2 F_Desk_need_cell_xBadColumnBadRow) (fun f => Meth K (He.ga K "Desk") "need_cell" f) := by
  obtain ⟨f, fd, F0, m0⟩ := T.d_Desk_need_cell
  exact ⟨f, fd, okd_Desk_need_cell_xBadColumnBadRow T F0, m0, F0.kp, F0.bindsN fun _ _ _ _ _ _ us hl => match us, hl with | [_, _, _], _ => rfl⟩
theorem sc_with_cell_xBadBoardBadColumnBadRowBadSign : FnScope ["board", "row", "column", "sign", "line"] ["board", "row", "column", "sign"] (defScope s_with_cell_xBadBoardBadColumnBadRowBadSign) := ⟨rfl, rfl, rfl, by decide +kernel, rfl, by decide +kernel, by decide +kernel⟩
def B_with_cell_xBadBoardBadColumnBadRowBadSign : ML.Env → SO :=
  (seqF (dropF (callF 1 (consF (varF 0) nilF) F_need_board_xBadBoard))
  (seqF (ifS (notT (testF (callF 3 (consF (varF 1) (consF (cF (.int 0)) (consF (op2F (cbF (consF (fldF (varF 0) 0 "table") nilF) (lenA 0 F_Board___len__)) (cF (.int 1)) subD) nilF))) F_is_from))) (raise0F 27) nxF)
  (seqF (ifS (notT (testF (callF 3 (consF (varF 2) (consF (cF (.int 0)) (consF (op2F (cbF (consF (op2F (fldF (varF 0) 0 "table") (cF (.int 0)) ixD) nilF) (lenA 0 F_Board___len__)) (cF (.int 1)) subD) nilF))) F_is_from))) (raise0F 8) nxF)
  (seqF (ifS (orT (notT (testF (isiF (varF 3) "str"))) (orT (testF (op2F (cbF (consF (varF 3) nilF) (lenA 0 F_Board___len__)) (cF (.int 1)) neD)) (testF (op2F (varF 3) (cF (.str ".<>x")) notInD)))) (raise0F 29) nxF)
  (seqF (asgF (op2F (op2F (slF (op2F (fldF (varF 0) 0 "table") (varF 1) ixD) noPF (partF (varF 2))) (varF 3) addD) (slF (op2F (fldF (varF 0) 0 "table") (varF 1) ixD) (partF (op2F (varF 2) (cF (.int 1)) addD)) noPF) addD) (gnF 4))
  (retF (frzF (makeM 0 1 (consF (op2F (op2F (slF (fldF (varF 0) 0 "table") noPF (partF (varF 1))) (tupF (consF (varF 4) nilF)) addD) (slF (fldF (varF 0) 0 "table") (partF (op2F (varF 1) (cF (.int 1)) addD)) noPF) addD) nilF) F_Board___init__))))))))
def F_with_cell_xBadBoardBadColumnBadRowBadSign : List D → Rt := runX 5 B_with_cell_xBadBoardBadColumnBadRowBadSign
theorem okd_with_cell_xBadBoardBadColumnBadRowBadSign (T : Txt w K mg C) {f : Addr} {fd : FuncData} (F0 : FunD K "with_cell" "with_cell" (defArgs s_with_cell_xBadBoardBadColumnBadRowBadSign) (defBody s_with_cell_xBadBoardBadColumnBadRowBadSign) (defScope s_with_cell_xBadBoardBadColumnBadRowBadSign) [] [] f fd) : FnOk P w K mg base (L2.CX P w) 6 f fd ["board", "row", "column", "sign"] (SpF (uv w K C) 4 F_with_cell_xBadBoardBadColumnBadRowBadSign) := by
  obtain ⟨f_need_board_xBadBoard, fd_need_board_xBadBoard, G_need_board_xBadBoard, m_need_board_xBadBoard, k_need_board_xBadBoard, b_need_board_xBadBoard⟩ := ok_need_board_xBadBoard (P := P) (w := w) (base := base) T
  obtain ⟨f_is_from, fd_is_from, G_is_from, m_is_from, k_is_from, b_is_from⟩ := ok_is_from (P := P) (w := w) (base := base) T
  obtain ⟨f_Board___len__, fd_Board___len__, G_Board___len__, m_Board___len__, k_Board___len__, b_Board___len__⟩ := ok_Board___len__ (P := P) (w := w) (base := base) T
  obtain ⟨f_Board___init__, fd_Board___init__, G_Board___init__, m_Board___init__, k_Board___init__, b_Board___init__⟩ := ok_Board___init__ (P := P) (w := w) (base := base) T
  obtain ⟨t_SIGNS, c_SIGNS⟩ := T.c_SIGNS
  refine okX (u := uv w K C) ⟨rfl, rfl⟩ F0 sc_with_cell_xBadBoardBadColumnBadRowBadSign rfl fun cdv A outer s H E hr tk hp => ⟨_, (pss_cons (ps_expr (pe_callS G_need_board_xBadBoard (hr.mono (by decide)) rfl m_need_board_xBadBoard k_need_board_xBadBoard b_need_board_xBadBoard (passAt tk) (pa_cons (pv 0) pa_nil)))
  (pss_cons (ps_if (pt_not (pt_val (pe_call G_is_from (hr.mono (by decide)) rfl m_is_from k_is_from b_is_from .nil pass0 (pa_cons (pv 1) (pa_cons pe_int (pa_cons (pe_op op_sub (pe_callB (r := MH.rLenA K C (SpF (uv w K C) 1 F_Board___len__)) (MH.call_lenA m_Board___len__ G_Board___len__ (hr.mono (by decide)) b_Board___len__) rfl T.n_len (by decide +kernel) (pa_cons (MH.pe_fldK (K := K) rfl (pv 0) rfl) pa_nil)) pe_int) pa_nil)))))) (pss_one (ps_raise0 tk T.x_BadRow (oke_BadRow T) (hr.mono (by decide)) rfl rfl)) pss_nil)
  (pss_cons (ps_if (pt_not (pt_val (pe_call G_is_from (hr.mono (by decide)) rfl m_is_from k_is_from b_is_from .nil pass0 (pa_cons (pv 2) (pa_cons pe_int (pa_cons (pe_op op_sub (pe_callB (r := MH.rLenA K C (SpF (uv w K C) 1 F_Board___len__)) (MH.call_lenA m_Board___len__ G_Board___len__ (hr.mono (by decide)) b_Board___len__) rfl T.n_len (by decide +kernel) (pa_cons (pe_ix (r := rIx K) ix_seq (MH.pe_fldK (K := K) rfl (pv 0) rfl) pe_int (fun _ _ => rfl)) pa_nil)) pe_int) pa_nil)))))) (pss_one (ps_raise0 tk T.x_BadColumn (oke_BadColumn T) (hr.mono (by decide)) rfl rfl)) pss_nil)
  (pss_cons (ps_if (PW.pt (pw_or (pt_not (pt_val (pe_callB (r := MH.rIsiA K) MH.call_isiA rfl T.n_isinstance (by decide +kernel) (pa_cons (pv 3) (pa_cons (pe_bltn (v := .ty "str") rfl T.n_str (by decide +kernel) rfl) pa_nil))))) (pw_or (pt_cmpR (r := rNeD K) (op_neD hr.units) (pe_callB (r := MH.rLenA K C (SpF (uv w K C) 1 F_Board___len__)) (MH.call_lenA m_Board___len__ G_Board___len__ (hr.mono (by decide)) b_Board___len__) rfl T.n_len (by decide +kernel) (pa_cons (pv 3) pa_nil)) pe_int (nomark _)) (pw_or1 (pt_cmpR (r := MH.rNotInA K) (MH.op_notInA hr) (pv 3) (pe_glob (v := .str ".<>x") rfl c_SIGNS ⟨_, rfl⟩) (by rfl)))))) (pss_one (ps_raise0 tk T.x_BadSign (oke_BadSign T) (hr.mono (by decide)) rfl rfl)) pss_nil)
  (pss_cons (ps_set (i := 4) sc_with_cell_xBadBoardBadColumnBadRowBadSign.nd rfl (Or.inl rfl) (pe_op (r := MH.rAddA K) MH.op_addA (pe_op (r := MH.rAddA K) MH.op_addA (pe_slice (r := MH.rSlAll K) MH.sl_all (pe_ix (r := rIx K) ix_seq (MH.pe_fldK (K := K) rfl (pv 0) rfl) (pv 1) (fun _ _ => rfl)) po_none (po_some (pv 2))) (pv 3)) (pe_slice (r := MH.rSlAll K) MH.sl_all (pe_ix (r := rIx K) ix_seq (MH.pe_fldK (K := K) rfl (pv 0) rfl) (pv 1) (fun _ _ => rfl)) (po_some (pe_op (r := MH.rAddA K) MH.op_addA (pv 2) pe_int)) po_none)))
  (pss_one (ps_ret (pe_make m_Board___init__ G_Board___init__ (hr.mono (by decide)) rfl T.mg_Board b_Board___init__ .nil pass0 (pa_cons (pe_op (r := MH.rAddA K) MH.op_addA (pe_op (r := MH.rAddA K) MH.op_addA (pe_slice (r := MH.rSlAll K) MH.sl_all (MH.pe_fldK (K := K) rfl (pv 0) rfl) po_none (po_some (pv 1))) (pe_tup (pa_cons (pv 4) pa_nil))) (pe_slice (r := MH.rSlAll K) MH.sl_all (MH.pe_fldK (K := K) rfl (pv 0) rfl) (po_some (pe_op (r := MH.rAddA K) MH.op_addA (pv 1) pe_int)) po_none)) pa_nil))))))))), fun mo_ => ?_⟩
  exact (rs_seq (rs_drop (rz_callS (rz_cons (rz_var 0) rz_nil)))
  (rs_seq (rs_if (rt_not (rt_B (rz_callN runF_nx (rz_cons (rz_var 1) (rz_cons rz_int (rz_cons (rz_op (rz_cb (rz_cons (rz_fld (u := (uv w K C).mt mo_ []) (c := 0) (rz_var 0) T.cls_Board T.na_Board_table) rz_nil) rc_lenA) rz_int rr_sub) rz_nil)))))) (rs_raise0 (u := (uv w K C).mt mo_ []) (c := 27) rfl) rs_next)
  (rs_seq (rs_if (rt_not (rt_B (rz_callN runF_nx (rz_cons (rz_var 2) (rz_cons rz_int (rz_cons (rz_op (rz_cb (rz_cons (rz_op (rz_fld (u := (uv w K C).mt mo_ []) (c := 0) (rz_var 0) T.cls_Board T.na_Board_table) rz_int rr_ix) rz_nil) rc_lenA) rz_int rr_sub) rz_nil)))))) (rs_raise0 (u := (uv w K C).mt mo_ []) (c := 8) rfl) rs_next)
  (rs_seq (rs_if (rt_or (rt_not (rt_B (rz_isi (u := (uv w K C).mt mo_ []) (rz_var 3) (by decide) fun n => okA T n))) (rt_or (rt_test (rz_op (rz_cb (rz_cons (rz_var 3) rz_nil) rc_lenA) rz_int rr_ne)) (rt_test (rz_op (rz_var 3) rz_str rr_notIn)))) (rs_raise0 (u := (uv w K C).mt mo_ []) (c := 29) rfl) rs_next)
  (rs_seq (rs_asg (b := []) (rz_op (rz_op (rz_slice (rz_op (rz_fld (u := (uv w K C).mt mo_ []) (c := 0) (rz_var 0) T.cls_Board T.na_Board_table) (rz_var 1) rr_ix) ro_none (ro_some (rz_var 2))) (rz_var 3) rr_add) (rz_slice (rz_op (rz_fld (u := (uv w K C).mt mo_ []) (c := 0) (rz_var 0) T.cls_Board T.na_Board_table) (rz_var 1) rr_ix) (ro_some (rz_op (rz_var 2) rz_int rr_add)) ro_none) rr_add) (rg_name 4))
  (rs_ret (rz_frz (rzm_make (u := (uv w K C).mt mo_ []) (c := 0) (rz_cons (rz_op (rz_op (rz_slice (rz_fld (u := (uv w K C).mt mo_ []) (c := 0) (rz_var 0) T.cls_Board T.na_Board_table) ro_none (ro_some (rz_var 1))) (rz_tup (rz_cons (rz_var 4) rz_nil)) rr_add) (rz_slice (rz_fld (u := (uv w K C).mt mo_ []) (c := 0) (rz_var 0) T.cls_Board T.na_Board_table) (ro_some (rz_op (rz_var 1) rz_int rr_add)) ro_none) rr_add) rz_nil)))))))))
theorem ok_with_cell_xBadBoardBadColumnBadRowBadSign (T : Txt w K mg C) : FnXX P w K mg base 6 ["board", "row", "column", "sign"] (SpF (uv w K C) 4 F_with_cell_xBadBoardBadColumnBadRowBadSign) (fun f => mg "with_cell" = some (.ref f)) := by
  obtain ⟨f, fd, F0, m0⟩ := T.d_with_cell
  exact ⟨f, fd, okd_with_cell_xBadBoardBadColumnBadRowBadSign T F0, m0, F0.kp, F0.bindsN fun _ _ _ _ _ _ us hl => match us, hl with | [_, _, _, _], _ => rfl⟩
theorem sc_Desk_put_xBadBoardBadColumnBadRowBadSign : FnScope ["self", "row", "column", "sign", "board", "load", "wires"] ["self", "row", "column", "sign"] (defScope s_Desk_put_xBadBoardBadColumnBadRowBadSign) := ⟨rfl, rfl, rfl, by decide +kernel, rfl, by decide +kernel, by decide +kernel⟩
def B_Desk_put_xBadBoardBadColumnBadRowBadSign : ML.Env → SO :=
  (seqF (dropF (methUF 2 0 1 "need_cell" (consF (varF 1) (consF (varF 2) nilF)) F_Desk_need_cell_xBadColumnBadRow))
  (seqF (ifS (orT (notT (testF (isiF (varF 3) "str"))) (orT (testF (op2F (cbF (consF (varF 3) nilF) (lenA 0 F_Board___len__)) (cF (.int 1)) neD)) (testF (op2F (varF 3) (cF (.str ".<>x")) notInD)))) (raise0F 29) nxF)
  (seqF (asgF (slF (op2F (pfldF 0 1 "past") (op1F (cF (.int 1)) negD) ixD) noPF (partF (cF (.int 3)))) (gtupF 3 (gconsF (gnF 4) (gconsF (gnF 5) (gconsF (gnF 6) gnilF)))))
  (dropF (methMF 3 0 1 "set_state" (consF (callF 4 (consF (varF 4) (consF (varF 1) (consF (varF 2) (consF (varF 3) nilF)))) F_with_cell_xBadBoardBadColumnBadRowBadSign) (consF (varF 5) (consF (varF 6) nilF))) F_Desk_set_state)))))
def F_Desk_put_xBadBoardBadColumnBadRowBadSign : D → List D → RtU := runU 7 B_Desk_put_xBadBoardBadColumnBadRowBadSign
theorem okd_Desk_put_xBadBoardBadColumnBadRowBadSign (T : Txt w K mg C) {f : Addr} {fd : FuncData} (F0 : FunD K "put" "Desk.put" (defArgs s_Desk_put_xBadBoardBadColumnBadRowBadSign) (defBody s_Desk_put_xBadBoardBadColumnBadRowBadSign) (defScope s_Desk_put_xBadBoardBadColumnBadRowBadSign) [] [] f fd) : FnOk P w K mg base (L2.CX P w) 8 f fd ["self", "row", "column", "sign"] (SpU (uv w K C) 3 F_Desk_put_xBadBoardBadColumnBadRowBadSign) := by
  obtain ⟨f_Desk_need_cell_xBadColumnBadRow, fd_Desk_need_cell_xBadColumnBadRow, G_Desk_need_cell_xBadColumnBadRow, m_Desk_need_cell_xBadColumnBadRow, k_Desk_need_cell_xBadColumnBadRow, b_Desk_need_cell_xBadColumnBadRow⟩ := ok_Desk_need_cell_xBadColumnBadRow (P := P) (w := w) (base := base) T
  obtain ⟨f_Board___len__, fd_Board___len__, G_Board___len__, m_Board___len__, k_Board___len__, b_Board___len__⟩ := ok_Board___len__ (P := P) (w := w) (base := base) T
  obtain ⟨f_Desk_set_state, fd_Desk_set_state, G_Desk_set_state, m_Desk_set_state, k_Desk_set_state, b_Desk_set_state⟩ := ok_Desk_set_state (P := P) (w := w) (base := base) T
  obtain ⟨f_with_cell_xBadBoardBadColumnBadRowBadSign, fd_with_cell_xBadBoardBadColumnBadRowBadSign, G_with_cell_xBadBoardBadColumnBadRowBadSign, m_with_cell_xBadBoardBadColumnBadRowBadSign, k_with_cell_xBadBoardBadColumnBadRowBadSign, b_with_cell_xBadBoardBadColumnBadRowBadSign⟩ := ok_with_cell_xBadBoardBadColumnBadRowBadSign (P := P) (w := w) (base := base) T
  obtain ⟨t_SIGNS, c_SIGNS⟩ := T.c_SIGNS
  refine okU (u := uv w K C) ⟨rfl, rfl⟩ F0 sc_Desk_put_xBadBoardBadColumnBadRowBadSign rfl rfl fun cdv A outer s H E hr tk hp => ⟨_, (pss_cons (ps_expr (MH.pe_methX (pv 0) T.cls_Desk m_Desk_need_cell_xBadColumnBadRow G_Desk_need_cell_xBadColumnBadRow (hr.mono (by decide)) b_Desk_need_cell_xBadColumnBadRow (passAt tk) (pa_cons (pv 1) (pa_cons (pv 2) pa_nil))))
  (pss_cons (ps_if (PW.pt (pw_or (pt_not (pt_val (pe_callB (r := MH.rIsiA K) MH.call_isiA rfl T.n_isinstance (by decide +kernel) (pa_cons (pv 3) (pa_cons (pe_bltn (v := .ty "str") rfl T.n_str (by decide +kernel) rfl) pa_nil))))) (pw_or (pt_cmpR (r := rNeD K) (op_neD hr.units) (pe_callB (r := MH.rLenA K C (SpF (uv w K C) 1 F_Board___len__)) (MH.call_lenA m_Board___len__ G_Board___len__ (hr.mono (by decide)) b_Board___len__) rfl T.n_len (by decide +kernel) (pa_cons (pv 3) pa_nil)) pe_int (nomark _)) (pw_or1 (pt_cmpR (r := MH.rNotInA K) (MH.op_notInA hr) (pv 3) (pe_glob (v := .str ".<>x") rfl c_SIGNS ⟨_, rfl⟩) (by rfl)))))) (pss_one (ps_raise0 tk T.x_BadSign (oke_BadSign T) (hr.mono (by decide)) rfl rfl)) pss_nil)
  (pss_cons (ps_asg (pe_slice (r := MH.rSlAll K) MH.sl_all (pe_ix (r := rIx K) ix_seq (MH.pe_fldK (K := K) rfl (pv 0) rfl) (pe_un un_neg pe_int) (fun _ _ => rfl)) po_none (po_some pe_int)) (MH.pg_tupK (K := K) (n := 3) rfl rfl (pgs_cons (pg_name (i := 4) sc_Desk_put_xBadBoardBadColumnBadRowBadSign.nd rfl (Or.inl rfl)) (pgs_cons (pg_name (i := 5) sc_Desk_put_xBadBoardBadColumnBadRowBadSign.nd rfl (Or.inl rfl)) (pgs_cons (pg_name (i := 6) sc_Desk_put_xBadBoardBadColumnBadRowBadSign.nd rfl (Or.inl rfl)) pgs_nil)))))
  (pss_one (ps_expr (pe_meth (pv 0) T.cls_Desk m_Desk_set_state G_Desk_set_state (hr.mono (by decide)) b_Desk_set_state .nil pass0 (pa_cons (pe_callS G_with_cell_xBadBoardBadColumnBadRowBadSign (hr.mono (by decide)) rfl m_with_cell_xBadBoardBadColumnBadRowBadSign k_with_cell_xBadBoardBadColumnBadRowBadSign b_with_cell_xBadBoardBadColumnBadRowBadSign (passAt tk) (pa_cons (pv 4) (pa_cons (pv 1) (pa_cons (pv 2) (pa_cons (pv 3) pa_nil))))) (pa_cons (pv 5) (pa_cons (pv 6) pa_nil))))))))), fun mo_ => ?_⟩
  exact (rs_seq (rs_drop (rz_methU (u := (uv w K C).mt mo_ []) (c := 1) (rz_cons (rz_var 1) (rz_cons (rz_var 2) rz_nil))))
  (rs_seq (rs_if (rt_or (rt_not (rt_B (rz_isi (u := (uv w K C).mt mo_ []) (rz_var 3) (by decide) fun n => okA T n))) (rt_or (rt_test (rz_op (rz_cb (rz_cons (rz_var 3) rz_nil) rc_lenA) rz_int rr_ne)) (rt_test (rz_op (rz_var 3) rz_str rr_notIn)))) (rs_raise0 (u := (uv w K C).mt mo_ []) (c := 29) rfl) rs_next)
  (rs_seq (rs_asg (b := [0]) (rz_slice (rz_op (rz_pfld (u := (uv w K C).mt mo_ []) (c := 1) T.cls_Desk T.na_Desk_past) (rz_un rz_int ru_neg) rr_ix) ro_none (ro_some rz_int)) (rg_tup (rgs_cons (rg_name 4) (rgs_cons (rg_name 5) (rgs_cons (rg_name 6) rgs_nil)))))
  (rs_drop (rz_methM (u := (uv w K C).mt mo_ []) (c := 1) (rz_cons (rz_callS (rz_cons (rz_var 4) (rz_cons (rz_var 1) (rz_cons (rz_var 2) (rz_cons (rz_var 3) rz_nil))))) (rz_cons (rz_var 5) (rz_cons (rz_var 6) rz_nil))))))))
theorem ok_Desk_put_xBadBoardBadColumnBadRowBadSign (T : Txt w K mg C) : FnXX P w K mg base 8 ["self", "row", "column", "sign"] (SpU (uv w K C) 3 F_Desk_put_xBadBoardBadColumnBadRowBadSign) (fun f => Meth K (He.ga K "Desk") "put" f) := by
  obtain ⟨f, fd, F0, m0⟩ := T.d_Desk_put
  exact ⟨f, fd, okd_Desk_put_xBadBoardBadColumnBadRowBadSign T F0, m0, F0.kp, F0.bindsN fun _ _ _ _ _ _ us hl => match us, hl with | [_, _, _, _], _ => rfl⟩
theorem sc_Desk_strengthen_xBadColumnBadNumberBadRow : FnScope ["self", "row", "column", "number", "board", "load", "wires", "line"] ["self", "row", "column", "number"] (defScope s_Desk_strengthen_xBadColumnBadNumberBadRow) := ⟨rfl, rfl, rfl, by decide +kernel, rfl, by decide +kernel, by decide +kernel⟩
def B_Desk_strengthen_xBadColumnBadNumberBadRow : ML.Env → SO :=
  (seqF (dropF (methUF 2 0 1 "need_cell" (consF (varF 1) (consF (varF 2) nilF)) F_Desk_need_cell_xBadColumnBadRow))
  (seqF (ifS (notT (testF (callF 3 (consF (varF 3) (consF (cF (.int 0)) (consF (cF (.int 9)) nilF))) F_is_from))) (raise0F 22) nxF)
  (seqF (asgF (slF (op2F (pfldF 0 1 "past") (op1F (cF (.int 1)) negD) ixD) noPF (partF (cF (.int 3)))) (gtupF 3 (gconsF (gnF 4) (gconsF (gnF 5) (gconsF (gnF 6) gnilF)))))
  (seqF (asgF (op2F (op2F (slF (op2F (varF 6) (varF 1) ixD) noPF (partF (varF 2))) (tupF (consF (varF 3) nilF)) addD) (slF (op2F (varF 6) (varF 1) ixD) (partF (op2F (varF 2) (cF (.int 1)) addD)) noPF) addD) (gnF 7))
  (dropF (methMF 3 0 1 "set_state" (consF (varF 4) (consF (varF 5) (consF (op2F (op2F (slF (varF 6) noPF (partF (varF 1))) (tupF (consF (varF 7) nilF)) addD) (slF (varF 6) (partF (op2F (varF 1) (cF (.int 1)) addD)) noPF) addD) nilF))) F_Desk_set_state))))))
def F_Desk_strengthen_xBadColumnBadNumberBadRow : D → List D → RtU := runU 8 B_Desk_strengthen_xBadColumnBadNumberBadRow
theorem okd_Desk_strengthen_xBadColumnBadNumberBadRow (T : Txt w K mg C) {f : Addr} {fd : FuncData} (F0 : FunD K "strengthen" "Desk.strengthen" (defArgs s_Desk_strengthen_xBadColumnBadNumberBadRow) (defBody s_Desk_strengthen_xBadColumnBadNumberBadRow) (defScope s_Desk_strengthen_xBadColumnBadNumberBadRow) [] [] f fd) : FnOk P w K mg base (L2.CX P w) 8 f fd ["self", "row", "column", "number"] (SpU (uv w K C) 3 F_Desk_strengthen_xBadColumnBadNumberBadRow) := by
  obtain ⟨f_Desk_need_cell_xBadColumnBadRow, fd_Desk_need_cell_xBadColumnBadRow, G_Desk_need_cell_xBadColumnBadRow, m_Desk_need_cell_xBadColumnBadRow, k_Desk_need_cell_xBadColumnBadRow, b_Desk_need_cell_xBadColumnBadRow⟩ := ok_Desk_need_cell_xBadColumnBadRow (P := P) (w := w) (base := base) T
  obtain ⟨f_is_from, fd_is_from, G_is_from, m_is_from, k_is_from, b_is_from⟩ := ok_is_from (P := P) (w := w) (base := base) T
  obtain ⟨f_Desk_set_state, fd_Desk_set_state, G_Desk_set_state, m_Desk_set_state, k_Desk_set_state, b_Desk_set_state⟩ := ok_Desk_set_state (P := P) (w := w) (base := base) T
  obtain ⟨t_MOST_STRENGTH, c_MOST_STRENGTH⟩ := T.c_MOST_STRENGTH
  refine okU (u := uv w K C) ⟨rfl, rfl⟩ F0 sc_Desk_strengthen_xBadColumnBadNumberBadRow rfl rfl fun cdv A outer s H E hr tk hp => ⟨_, (pss_cons (ps_expr (MH.pe_methX (pv 0) T.cls_Desk m_Desk_need_cell_xBadColumnBadRow G_Desk_need_cell_xBadColumnBadRow (hr.mono (by decide)) b_Desk_need_cell_xBadColumnBadRow (passAt tk) (pa_cons (pv 1) (pa_cons (pv 2) pa_nil))))
  (pss_cons (ps_if (pt_not (pt_val (pe_call G_is_from (hr.mono (by decide)) rfl m_is_from k_is_from b_is_from .nil pass0 (pa_cons (pv 3) (pa_cons pe_int (pa_cons (pe_glob (v := .int 9) rfl c_MOST_STRENGTH ⟨_, rfl⟩) pa_nil)))))) (pss_one (ps_raise00 tk T.x_BadNumber T.o_BadNumber rfl rfl)) pss_nil)
  (pss_cons (ps_asg (pe_slice (r := MH.rSlAll K) MH.sl_all (pe_ix (r := rIx K) ix_seq (MH.pe_fldK (K := K) rfl (pv 0) rfl) (pe_un un_neg pe_int) (fun _ _ => rfl)) po_none (po_some pe_int)) (MH.pg_tupK (K := K) (n := 3) rfl rfl (pgs_cons (pg_name (i := 4) sc_Desk_strengthen_xBadColumnBadNumberBadRow.nd rfl (Or.inl rfl)) (pgs_cons (pg_name (i := 5) sc_Desk_strengthen_xBadColumnBadNumberBadRow.nd rfl (Or.inl rfl)) (pgs_cons (pg_name (i := 6) sc_Desk_strengthen_xBadColumnBadNumberBadRow.nd rfl (Or.inl rfl)) pgs_nil)))))
  (pss_cons (ps_set (i := 7) sc_Desk_strengthen_xBadColumnBadNumberBadRow.nd rfl (Or.inl rfl) (pe_op (r := MH.rAddA K) MH.op_addA (pe_op (r := MH.rAddA K) MH.op_addA (pe_slice (r := MH.rSlAll K) MH.sl_all (pe_ix (r := rIx K) ix_seq (pv 6) (pv 1) (fun _ _ => rfl)) po_none (po_some (pv 2))) (pe_tup (pa_cons (pv 3) pa_nil))) (pe_slice (r := MH.rSlAll K) MH.sl_all (pe_ix (r := rIx K) ix_seq (pv 6) (pv 1) (fun _ _ => rfl)) (po_some (pe_op (r := MH.rAddA K) MH.op_addA (pv 2) pe_int)) po_none)))
  (pss_one (ps_expr (pe_meth (pv 0) T.cls_Desk m_Desk_set_state G_Desk_set_state (hr.mono (by decide)) b_Desk_set_state .nil pass0 (pa_cons (pv 4) (pa_cons (pv 5) (pa_cons (pe_op (r := MH.rAddA K) MH.op_addA (pe_op (r := MH.rAddA K) MH.op_addA (pe_slice (r := MH.rSlAll K) MH.sl_all (pv 6) po_none (po_some (pv 1))) (pe_tup (pa_cons (pv 7) pa_nil))) (pe_slice (r := MH.rSlAll K) MH.sl_all (pv 6) (po_some (pe_op (r := MH.rAddA K) MH.op_addA (pv 1) pe_int)) po_none)) pa_nil)))))))))), fun mo_ => ?_⟩
  exact (rs_seq (rs_drop (rz_methU (u := (uv w K C).mt mo_ []) (c := 1) (rz_cons (rz_var 1) (rz_cons (rz_var 2) rz_nil))))
  (rs_seq (rs_if (rt_not (rt_B (rz_callN runF_nx (rz_cons (rz_var 3) (rz_cons rz_int (rz_cons rz_int rz_nil)))))) (rs_raise0 (u := (uv w K C).mt mo_ []) (c := 22) rfl) rs_next)
  (rs_seq (rs_asg (b := [0]) (rz_slice (rz_op (rz_pfld (u := (uv w K C).mt mo_ []) (c := 1) T.cls_Desk T.na_Desk_past) (rz_un rz_int ru_neg) rr_ix) ro_none (ro_some rz_int)) (rg_tup (rgs_cons (rg_name 4) (rgs_cons (rg_name 5) (rgs_cons (rg_name 6) rgs_nil)))))
  (rs_seq (rs_asg (b := [0]) (rz_op (rz_op (rz_slice (rz_op (rz_var 6) (rz_var 1) rr_ix) ro_none (ro_some (rz_var 2))) (rz_tup (rz_cons (rz_var 3) rz_nil)) rr_add) (rz_slice (rz_op (rz_var 6) (rz_var 1) rr_ix) (ro_some (rz_op (rz_var 2) rz_int rr_add)) ro_none) rr_add) (rg_name 7))
  (rs_drop (rz_methM (u := (uv w K C).mt mo_ []) (c := 1) (rz_cons (rz_var 4) (rz_cons (rz_var 5) (rz_cons (rz_op (rz_op (rz_slice (rz_var 6) ro_none (ro_some (rz_var 1))) (rz_tup (rz_cons (rz_var 7) rz_nil)) rr_add) (rz_slice (rz_var 6) (ro_some (rz_op (rz_var 1) rz_int rr_add)) ro_none) rr_add) rz_nil)))))))))
theorem ok_Desk_strengthen_xBadColumnBadNumberBadRow (T : Txt w K mg C) : FnXX P w K mg base 8 ["self", "row", "column", "number"] (SpU (uv w K C) 3 F_Desk_strengthen_xBadColumnBadNumberBadRow) (fun f => Meth K (He.ga K "Desk") "strengthen" f) := by
  obtain ⟨f, fd, F0, m0⟩ := T.d_Desk_strengthen
  exact ⟨f, fd, okd_Desk_strengthen_xBadColumnBadNumberBadRow T F0, m0, F0.kp, F0.bindsN fun _ _ _ _ _ _ us hl => match us, hl with | [_, _, _, _], _ => rfl⟩
theorem sc_need_thread_xBadThread : FnScope ["board", "thread"] ["board", "thread"] (defScope s_need_thread_xBadThread) := ⟨rfl, rfl, rfl, by decide +kernel, rfl, by decide +kernel, by decide +kernel⟩
def B_need_thread_xBadThread : ML.Env → SO :=
  (ifS (notT (testF (callF 2 (consF (varF 0) (consF (varF 1) nilF)) F_is_thread))) (raise0F 32) nxF)
def F_need_thread_xBadThread : List D → Rt := runX 2 B_need_thread_xBadThread
theorem okd_need_thread_xBadThread (T : Txt w K mg C) {f : Addr} {fd : FuncData} (F0 : FunD K "need_thread" "need_thread" (defArgs s_need_thread_xBadThread) (defBody s_need_thread_xBadThread) (defScope s_need_thread_xBadThread) [] [] f fd) : FnOk P w K mg base (L2.CX P w) 4 f fd ["board", "thread"] (SpF (uv w K C) 2 F_need_thread_xBadThread) := by
  obtain ⟨f_is_thread, fd_is_thread, G_is_thread, m_is_thread, k_is_thread, b_is_thread⟩ := ok_is_thread (P := P) (w := w) (base := base) T
  refine okX (u := uv w K C) ⟨rfl, rfl⟩ F0 sc_need_thread_xBadThread rfl fun cdv A outer s H E hr tk hp => ⟨_, (pss_one (ps_if (pt_not (pt_val (pe_call G_is_thread (hr.mono (by decide)) rfl m_is_thread k_is_thread b_is_thread .nil pass0 (pa_cons (pv 0) (pa_cons (pv 1) pa_nil))))) (pss_one (ps_raise0 tk T.x_BadThread (oke_BadThread T) (hr.mono (by decide)) rfl rfl)) pss_nil)), fun mo_ => ?_⟩
  exact (rs_if (rt_not (rt_B (rz_callN runF_nx (rz_cons (rz_var 0) (rz_cons (rz_var 1) rz_nil))))) (rs_raise0 (u := (uv w K C).mt mo_ []) (c := 32) rfl) rs_next)
theorem ok_need_thread_xBadThread (T : Txt w K mg C) : FnXX P w K mg base 4 ["board", "thread"] (SpF (uv w K C) 2 F_need_thread_xBadThread) (fun f => mg "need_thread" = some (.ref f)) := by
  obtain ⟨f, fd, F0, m0⟩ := T.d_need_thread
  exact ⟨f, fd, okd_need_thread_xBadThread T F0, m0, F0.kp, F0.bindsN fun _ _ _ _ _ _ us hl => match us, hl with | [_, _], _ => rfl⟩
theorem sc_Desk_shift_xBadNumberBadThreadTooHeavy : FnScope ["self", "one", "other", "number", "board", "load", "wires", "found"] ["self", "one", "other", "number"] (defScope s_Desk_shift_xBadNumberBadThreadTooHeavy) := ⟨rfl, rfl, rfl, by decide +kernel, rfl, by decide +kernel, by decide +kernel⟩
def B_Desk_shift_xBadNumberBadThreadTooHeavy : ML.Env → SO :=
  (seqF (asgF (slF (op2F (pfldF 0 1 "past") (op1F (cF (.int 1)) negD) ixD) noPF (partF (cF (.int 3)))) (gtupF 3 (gconsF (gnF 4) (gconsF (gnF 5) (gconsF (gnF 6) gnilF)))))
  (seqF (dropF (callF 2 (consF (varF 4) (consF (varF 1) nilF)) F_need_thread_xBadThread))
  (seqF (dropF (callF 2 (consF (varF 4) (consF (varF 2) nilF)) F_need_thread_xBadThread))
  (seqF (ifS (notT (testF (callF 3 (consF (varF 3) (consF (op1F (cF (.int 20)) negD) (consF (cF (.int 20)) nilF))) F_is_from))) (raise0F 22) nxF)
  (seqF (setM (listM (consF (varF 5) nilF)) 7)
  (seqF (setIF 7 (op2F (ixPF 7 (varF 1)) (varF 3) addD) (varF 1))
  (seqF (setIF 7 (op2F (ixPF 7 (varF 2)) (varF 3) subD) (varF 2))
  (seqF (ifS (orT (testF (op2F (cbF (consF (varF 7) nilF) maxTD) (cF (.int 20)) (cmpD fun i j => decide (j < i)))) (testF (op2F (cbF (consF (varF 7) nilF) minTD) (op1F (cF (.int 20)) negD) (cmpD fun i j => decide (i < j))))) (raise0F 40) nxF)
  (dropF (methMF 3 0 1 "set_state" (consF (varF 4) (consF (cbF (consF (varF 7) nilF) tupleD) (consF (varF 6) nilF))) F_Desk_set_state))))))))))
def F_Desk_shift_xBadNumberBadThreadTooHeavy : D → List D → RtU := runU 8 B_Desk_shift_xBadNumberBadThreadTooHeavy
theorem okd_Desk_shift_xBadNumberBadThreadTooHeavy (T : Txt w K mg C) {f : Addr} {fd : FuncData} (F0 : FunD K "shift" "Desk.shift" (defArgs s_Desk_shift_xBadNumberBadThreadTooHeavy) (defBody s_Desk_shift_xBadNumberBadThreadTooHeavy) (defScope s_Desk_shift_xBadNumberBadThreadTooHeavy) [] [] f fd) : FnOk P w K mg base (L2.CX P w) 8 f fd ["self", "one", "other", "number"] (SpU (uv w K C) 3 F_Desk_shift_xBadNumberBadThreadTooHeavy) := by
  obtain ⟨f_need_thread_xBadThread, fd_need_thread_xBadThread, G_need_thread_xBadThread, m_need_thread_xBadThread, k_need_thread_xBadThread, b_need_thread_xBadThread⟩ := ok_need_thread_xBadThread (P := P) (w := w) (base := base) T
  obtain ⟨f_is_from, fd_is_from, G_is_from, m_is_from, k_is_from, b_is_from⟩ := ok_is_from (P := P) (w := w) (base := base) T
  obtain ⟨f_Desk_set_state, fd_Desk_set_state, G_Desk_set_state, m_Desk_set_state, k_Desk_set_state, b_Desk_set_state⟩ := ok_Desk_set_state (P := P) (w := w) (base := base) T
  obtain ⟨t_MOST_LOAD, c_MOST_LOAD⟩ := T.c_MOST_LOAD
  refine okU (u := uv w K C) ⟨rfl, rfl⟩ F0 sc_Desk_shift_xBadNumberBadThreadTooHeavy rfl rfl fun cdv A outer s H E hr tk hp => ⟨_, (pss_cons (ps_asg (pe_slice (r := MH.rSlAll K) MH.sl_all (pe_ix (r := rIx K) ix_seq (MH.pe_fldK (K := K) rfl (pv 0) rfl) (pe_un un_neg pe_int) (fun _ _ => rfl)) po_none (po_some pe_int)) (MH.pg_tupK (K := K) (n := 3) rfl rfl (pgs_cons (pg_name (i := 4) sc_Desk_shift_xBadNumberBadThreadTooHeavy.nd rfl (Or.inl rfl)) (pgs_cons (pg_name (i := 5) sc_Desk_shift_xBadNumberBadThreadTooHeavy.nd rfl (Or.inl rfl)) (pgs_cons (pg_name (i := 6) sc_Desk_shift_xBadNumberBadThreadTooHeavy.nd rfl (Or.inl rfl)) pgs_nil)))))
  (pss_cons (ps_expr (pe_callS G_need_thread_xBadThread (hr.mono (by decide)) rfl m_need_thread_xBadThread k_need_thread_xBadThread b_need_thread_xBadThread (passAt tk) (pa_cons (pv 4) (pa_cons (pv 1) pa_nil))))
  (pss_cons (ps_expr (pe_callS G_need_thread_xBadThread (hr.mono (by decide)) rfl m_need_thread_xBadThread k_need_thread_xBadThread b_need_thread_xBadThread (passAt tk) (pa_cons (pv 4) (pa_cons (pv 2) pa_nil))))
  (pss_cons (ps_if (pt_not (pt_val (pe_call G_is_from (hr.mono (by decide)) rfl m_is_from k_is_from b_is_from .nil pass0 (pa_cons (pv 3) (pa_cons (pe_un un_neg (pe_glob (v := .int 20) rfl c_MOST_LOAD ⟨_, rfl⟩)) (pa_cons (pe_glob (v := .int 20) rfl c_MOST_LOAD ⟨_, rfl⟩) pa_nil)))))) (pss_one (ps_raise00 tk T.x_BadNumber T.o_BadNumber rfl rfl)) pss_nil)
  (pss_cons (ps_set (i := 7) sc_Desk_shift_xBadNumberBadThreadTooHeavy.nd rfl (Or.inl rfl) (pe_callTy (r := MH.rList K) call_list_of rfl T.n_list (by decide +kernel) (pa_cons (pv 5) pa_nil)))
  (pss_cons (ps_asg (pe_op (r := MH.rAddA K) MH.op_addA (pe_ix (r := rIx K) ix_seq (pv 7) (pv 1) (fun _ _ => rfl)) (pv 3)) (pg_sub (pv 7) (pv 1) set_list))
  (pss_cons (ps_asg (pe_op op_sub (pe_ix (r := rIx K) ix_seq (pv 7) (pv 2) (fun _ _ => rfl)) (pv 3)) (pg_sub (pv 7) (pv 2) set_list))
  (pss_cons (ps_if (PW.pt (pw_or (pt_cmpR op_gt (pe_callB (r := MH.rMaxT K) (MH.cr_maxT rfl) rfl T.n_max (by decide +kernel) (pa_cons (pv 7) pa_nil)) (pe_glob (v := .int 20) rfl c_MOST_LOAD ⟨_, rfl⟩) (nomark _)) (pw_or1 (pt_cmpR op_lt (pe_callB (r := MH.rMinT K) (MH.cr_minT hr rfl) rfl T.n_min (by decide +kernel) (pa_cons (pv 7) pa_nil)) (pe_un un_neg (pe_glob (v := .int 20) rfl c_MOST_LOAD ⟨_, rfl⟩)) (nomark _))))) (pss_one (ps_raise00 tk T.x_TooHeavy T.o_TooHeavy rfl rfl)) pss_nil)
  (pss_one (ps_expr (pe_meth (pv 0) T.cls_Desk m_Desk_set_state G_Desk_set_state (hr.mono (by decide)) b_Desk_set_state .nil pass0 (pa_cons (pv 4) (pa_cons (pe_callTy (r := MH.rTuple K) call_tuple_of rfl T.n_tuple (by decide +kernel) (pa_cons (pv 7) pa_nil)) (pa_cons (pv 6) pa_nil)))))))))))))), fun mo_ => ?_⟩
  exact (rs_seq (rs_asg (b := [0]) (rz_slice (rz_op (rz_pfld (u := (uv w K C).mt mo_ []) (c := 1) T.cls_Desk T.na_Desk_past) (rz_un rz_int ru_neg) rr_ix) ro_none (ro_some rz_int)) (rg_tup (rgs_cons (rg_name 4) (rgs_cons (rg_name 5) (rgs_cons (rg_name 6) rgs_nil)))))
  (rs_seq (rs_drop (rz_callS (rz_cons (rz_var 4) (rz_cons (rz_var 1) rz_nil))))
  (rs_seq (rs_drop (rz_callS (rz_cons (rz_var 4) (rz_cons (rz_var 2) rz_nil))))
  (rs_seq (rs_if (rt_not (rt_B (rz_callN runF_nx (rz_cons (rz_var 3) (rz_cons (rz_un rz_int ru_neg) (rz_cons rz_int rz_nil)))))) (rs_raise0 (u := (uv w K C).mt mo_ []) (c := 22) rfl) rs_next)
  (rs_seq (rs_setM (b := [0]) (rzm_list (rz_cons (rz_var 5) rz_nil)))
  (rs_seq (rs_setI (rz_op (rz_ixP (rz_var 1)) (rz_var 3) rr_add) (rz_var 1))
  (rs_seq (rs_setI (rz_op (rz_ixP (rz_var 2)) (rz_var 3) rr_sub) (rz_var 2))
  (rs_seq (rs_if (rt_or (rt_test (rz_op (rz_cb (rz_cons (rz_var 7) rz_nil) rc_maxT) rz_int rr_gt)) (rt_test (rz_op (rz_cb (rz_cons (rz_var 7) rz_nil) rc_minT) (rz_un rz_int ru_neg) rr_lt))) (rs_raise0 (u := (uv w K C).mt mo_ []) (c := 40) rfl) rs_next)
  (rs_drop (rz_methM (u := (uv w K C).mt mo_ []) (c := 1) (rz_cons (rz_var 4) (rz_cons (rz_cb (rz_cons (rz_var 7) rz_nil) rc_tuple) (rz_cons (rz_var 6) rz_nil)))))))))))))
theorem ok_Desk_shift_xBadNumberBadThreadTooHeavy (T : Txt w K mg C) : FnXX P w K mg base 8 ["self", "one", "other", "number"] (SpU (uv w K C) 3 F_Desk_shift_xBadNumberBadThreadTooHeavy) (fun f => Meth K (He.ga K "Desk") "shift" f) := by
  obtain ⟨f, fd, F0, m0⟩ := T.d_Desk_shift
  exact ⟨f, fd, okd_Desk_shift_xBadNumberBadThreadTooHeavy T F0, m0, F0.kp, F0.bindsN fun _ _ _ _ _ _ us hl => match us, hl with | [_, _, _, _], _ => rfl⟩
theorem sc__law_deed : FnScope ["_law_desk", "_law_kind", "_law_t", "e", "_law_found"] ["_law_desk", "_law_kind", "_law_t"] (defScope s__law_deed) := ⟨rfl, rfl, rfl, by decide +kernel, rfl, by decide +kernel, by decide +kernel⟩
def B__law_deed : ML.Env → SO :=
  (seqF (tryF [2, 8, 22, 27, 29, 32, 40] [⟨fun n => xsub n 0, some 3, (seqF (asgF (op2F (ifE (testF (xisF [2, 8, 22, 27, 29, 32, 40] 3 (fun n => xsub n 27))) (frzF (lstM (consF (cF (.str "row")) nilF))) (frzF (lstM nilF))) (ifE (testF (xisF [2, 8, 22, 27, 29, 32, 40] 3 (fun n => xsub n 8))) (frzF (lstM (consF (cF (.str "column")) nilF))) (frzF (lstM nilF))) addD) (gnF 4))
  (seqF (asgF (op2F (varF 4) (ifE (testF (xisF [2, 8, 22, 27, 29, 32, 40] 3 (fun n => xsub n 29))) (frzF (lstM (consF (cF (.str "sign")) nilF))) (frzF (lstM nilF))) addD) (gnF 4))
  (seqF (asgF (op2F (varF 4) (ifE (testF (xisF [2, 8, 22, 27, 29, 32, 40] 3 (fun n => xsub n 32))) (frzF (lstM (consF (cF (.str "thread")) nilF))) (frzF (lstM nilF))) addD) (gnF 4))
  (seqF (asgF (op2F (varF 4) (ifE (testF (xisF [2, 8, 22, 27, 29, 32, 40] 3 (fun n => xsub n 22))) (frzF (lstM (consF (cF (.str "number")) nilF))) (frzF (lstM nilF))) addD) (gnF 4))
  (retF (op2F (varF 4) (ifE (testF (xisF [2, 8, 22, 27, 29, 32, 40] 3 (fun n => xsub n 40))) (frzF (lstM (consF (cF (.str "heavy")) nilF))) (frzF (lstM nilF))) addD))))))⟩] (ifS (testF (op2F (varF 1) (cF (.int 0)) eqD)) (dropF (methUF 3 0 1 "put" (consF (op2F (varF 2) (cF (.int 0)) ixD) (consF (op2F (varF 2) (cF (.int 1)) ixD) (consF (op2F (varF 2) (cF (.int 2)) ixD) nilF))) F_Desk_put_xBadBoardBadColumnBadRowBadSign)) (ifS (testF (op2F (varF 1) (cF (.int 1)) eqD)) (dropF (methUF 3 0 1 "strengthen" (consF (op2F (varF 2) (cF (.int 0)) ixD) (consF (op2F (varF 2) (cF (.int 1)) ixD) (consF (op2F (varF 2) (cF (.int 2)) ixD) nilF))) F_Desk_strengthen_xBadColumnBadNumberBadRow)) (dropF (methUF 3 0 1 "shift" (consF (op2F (varF 2) (cF (.int 0)) ixD) (consF (op2F (varF 2) (cF (.int 1)) ixD) (consF (op2F (varF 2) (cF (.int 2)) ixD) nilF))) F_Desk_shift_xBadNumberBadThreadTooHeavy)))))
  (retF (frzF (lstM (consF (cF (.str "good")) nilF)))))
def F__law_deed : D → List D → RtM := runM 5 B__law_deed
theorem okd__law_deed (T : Txt w K mg C) {f : Addr} {fd : FuncData} (F0 : FunD K "_law_deed" "_law_deed" (defArgs s__law_deed) (defBody s__law_deed) (defScope s__law_deed) [] [] f fd) : FnOk P w K mg base CX0 10 f fd ["_law_desk", "_law_kind", "_law_t"] (SpM (uv w K C) 2 F__law_deed) := by
  obtain ⟨f_Desk_put_xBadBoardBadColumnBadRowBadSign, fd_Desk_put_xBadBoardBadColumnBadRowBadSign, G_Desk_put_xBadBoardBadColumnBadRowBadSign, m_Desk_put_xBadBoardBadColumnBadRowBadSign, k_Desk_put_xBadBoardBadColumnBadRowBadSign, b_Desk_put_xBadBoardBadColumnBadRowBadSign⟩ := ok_Desk_put_xBadBoardBadColumnBadRowBadSign (P := P) (w := w) (base := base) T
  obtain ⟨f_Desk_strengthen_xBadColumnBadNumberBadRow, fd_Desk_strengthen_xBadColumnBadNumberBadRow, G_Desk_strengthen_xBadColumnBadNumberBadRow, m_Desk_strengthen_xBadColumnBadNumberBadRow, k_Desk_strengthen_xBadColumnBadNumberBadRow, b_Desk_strengthen_xBadColumnBadNumberBadRow⟩ := ok_Desk_strengthen_xBadColumnBadNumberBadRow (P := P) (w := w) (base := base) T
  obtain ⟨f_Desk_shift_xBadNumberBadThreadTooHeavy, fd_Desk_shift_xBadNumberBadThreadTooHeavy, G_Desk_shift_xBadNumberBadThreadTooHeavy, m_Desk_shift_xBadNumberBadThreadTooHeavy, k_Desk_shift_xBadNumberBadThreadTooHeavy, b_Desk_shift_xBadNumberBadThreadTooHeavy⟩ := ok_Desk_shift_xBadNumberBadThreadTooHeavy (P := P) (w := w) (base := base) T
  refine okM (u := uv w K C) ⟨rfl, rfl⟩ F0 sc__law_deed rfl rfl fun cdv A outer s H E hr => ⟨_, (pss_cons (MH.ps_tryC rfl rfl sc__law_deed.nd L2.takes0 (fun W pn xe tk hp => (pss_one (ps_if (pt_cmpR (r := rEqD K) (op_eqD hr.units) (pv 1) pe_int (nomark _)) (pss_one (ps_expr (MH.pe_methX (pv 0) T.cls_Desk m_Desk_put_xBadBoardBadColumnBadRowBadSign G_Desk_put_xBadBoardBadColumnBadRowBadSign (hr.mono (by decide)) b_Desk_put_xBadBoardBadColumnBadRowBadSign (passAt tk) (pa_cons (pe_ix (r := rIx K) ix_seq (pv 2) pe_int (fun _ _ => rfl)) (pa_cons (pe_ix (r := rIx K) ix_seq (pv 2) pe_int (fun _ _ => rfl)) (pa_cons (pe_ix (r := rIx K) ix_seq (pv 2) pe_int (fun _ _ => rfl)) pa_nil)))))) (pss_one (ps_if (pt_cmpR (r := rEqD K) (op_eqD hr.units) (pv 1) pe_int (nomark _)) (pss_one (ps_expr (MH.pe_methX (pv 0) T.cls_Desk m_Desk_strengthen_xBadColumnBadNumberBadRow G_Desk_strengthen_xBadColumnBadNumberBadRow (hr.mono (by decide)) b_Desk_strengthen_xBadColumnBadNumberBadRow (passAt tk) (pa_cons (pe_ix (r := rIx K) ix_seq (pv 2) pe_int (fun _ _ => rfl)) (pa_cons (pe_ix (r := rIx K) ix_seq (pv 2) pe_int (fun _ _ => rfl)) (pa_cons (pe_ix (r := rIx K) ix_seq (pv 2) pe_int (fun _ _ => rfl)) pa_nil)))))) (pss_one (ps_expr (MH.pe_methX (pv 0) T.cls_Desk m_Desk_shift_xBadNumberBadThreadTooHeavy G_Desk_shift_xBadNumberBadThreadTooHeavy (hr.mono (by decide)) b_Desk_shift_xBadNumberBadThreadTooHeavy (passAt tk) (pa_cons (pe_ix (r := rIx K) ix_seq (pv 2) pe_int (fun _ _ => rfl)) (pa_cons (pe_ix (r := rIx K) ix_seq (pv 2) pe_int (fun _ _ => rfl)) (pa_cons (pe_ix (r := rIx K) ix_seq (pv 2) pe_int (fun _ _ => rfl)) pa_nil))))))))))) (cla_a (i := 3) ⟨rfl, by decide, .inl T.x_WovenError.gl⟩ rfl rfl (fun a oe cv d pn hz hf => (pss_cons (ps_set (i := 4) sc__law_deed.nd rfl (Or.inl rfl) (pe_op (r := MH.rAddA K) MH.op_addA (pe_ifExp (pt_val (pe_callB (r := MH.rIsX K a cv d) (MH.cr_isX hz hf) rfl T.n_isinstance (by decide +kernel) (pa_cons (pv 3) (pa_cons (pe_glob (v := .ref (He.ga K "BadRow")) rfl T.x_BadRow.gl rfl) pa_nil)))) (pe_lst (pa_cons pe_str pa_nil)) (pe_lst pa_nil)) (pe_ifExp (pt_val (pe_callB (r := MH.rIsX K a cv d) (MH.cr_isX hz hf) rfl T.n_isinstance (by decide +kernel) (pa_cons (pv 3) (pa_cons (pe_glob (v := .ref (He.ga K "BadColumn")) rfl T.x_BadColumn.gl rfl) pa_nil)))) (pe_lst (pa_cons pe_str pa_nil)) (pe_lst pa_nil))))
  (pss_cons (ps_set (i := 4) sc__law_deed.nd rfl (Or.inl rfl) (pe_op (r := MH.rAddA K) MH.op_addA (pv 4) (pe_ifExp (pt_val (pe_callB (r := MH.rIsX K a cv d) (MH.cr_isX hz hf) rfl T.n_isinstance (by decide +kernel) (pa_cons (pv 3) (pa_cons (pe_glob (v := .ref (He.ga K "BadSign")) rfl T.x_BadSign.gl rfl) pa_nil)))) (pe_lst (pa_cons pe_str pa_nil)) (pe_lst pa_nil))))
  (pss_cons (ps_set (i := 4) sc__law_deed.nd rfl (Or.inl rfl) (pe_op (r := MH.rAddA K) MH.op_addA (pv 4) (pe_ifExp (pt_val (pe_callB (r := MH.rIsX K a cv d) (MH.cr_isX hz hf) rfl T.n_isinstance (by decide +kernel) (pa_cons (pv 3) (pa_cons (pe_glob (v := .ref (He.ga K "BadThread")) rfl T.x_BadThread.gl rfl) pa_nil)))) (pe_lst (pa_cons pe_str pa_nil)) (pe_lst pa_nil))))
  (pss_cons (ps_set (i := 4) sc__law_deed.nd rfl (Or.inl rfl) (pe_op (r := MH.rAddA K) MH.op_addA (pv 4) (pe_ifExp (pt_val (pe_callB (r := MH.rIsX K a cv d) (MH.cr_isX hz hf) rfl T.n_isinstance (by decide +kernel) (pa_cons (pv 3) (pa_cons (pe_glob (v := .ref (He.ga K "BadNumber")) rfl T.x_BadNumber.gl rfl) pa_nil)))) (pe_lst (pa_cons pe_str pa_nil)) (pe_lst pa_nil))))
  (pss_one (ps_ret (pe_op (r := MH.rAddA K) MH.op_addA (pv 4) (pe_ifExp (pt_val (pe_callB (r := MH.rIsX K a cv d) (MH.cr_isX hz hf) rfl T.n_isinstance (by decide +kernel) (pa_cons (pv 3) (pa_cons (pe_glob (v := .ref (He.ga K "TooHeavy")) rfl T.x_TooHeavy.gl rfl) pa_nil)))) (pe_lst (pa_cons pe_str pa_nil)) (pe_lst pa_nil)))))))))) .nil))
  (pss_one (ps_ret (pe_lst (pa_cons pe_str pa_nil))))), fun mo_ => ?_⟩
  exact (rs_seq (rs_try (u := (uv w K C).mt mo_ []) (b := [0]) (fun W => (rs_if (rt_test (rz_op (rz_var 1) rz_int rr_eq)) (rs_drop (rz_methU (u := (uv w K C).mt mo_ []) (c := 1) (rz_cons (rz_op (rz_var 2) rz_int rr_ix) (rz_cons (rz_op (rz_var 2) rz_int rr_ix) (rz_cons (rz_op (rz_var 2) rz_int rr_ix) rz_nil))))) (rs_if (rt_test (rz_op (rz_var 1) rz_int rr_eq)) (rs_drop (rz_methU (u := (uv w K C).mt mo_ []) (c := 1) (rz_cons (rz_op (rz_var 2) rz_int rr_ix) (rz_cons (rz_op (rz_var 2) rz_int rr_ix) (rz_cons (rz_op (rz_var 2) rz_int rr_ix) rz_nil))))) (rs_drop (rz_methU (u := (uv w K C).mt mo_ []) (c := 1) (rz_cons (rz_op (rz_var 2) rz_int rr_ix) (rz_cons (rz_op (rz_var 2) rz_int rr_ix) (rz_cons (rz_op (rz_var 2) rz_int rr_ix) rz_nil)))))))) (claZ (XAll.hnd T.xall 0 (by decide)) (fun a cv d => (rs_seq (rs_asg (b := [0]) (rz_op (rz_if (rt_B (rz_xis (u := ((uv w K C).mt mo_ []).on a cv d) (w := .ref (He.ga K "BadRow")) (cv := .ref (He.ga K "BadRow")) (fun _ h => h) (MH.XAll.sub T.xall (l := [2, 8, 22, 27, 29, 32, 40]) (by decide)).xc (fun n hn => (MH.XAll.sub T.xall (l := (27 :: [2, 8, 22, 27, 29, 32, 40])) (by decide)).kt 27 List.mem_cons_self n (List.mem_cons_of_mem _ hn)))) (rz_frz (rzm_lst (rz_cons rz_str rz_nil))) (rz_frz (rzm_lst rz_nil))) (rz_if (rt_B (rz_xis (u := ((uv w K C).mt mo_ []).on a cv d) (w := .ref (He.ga K "BadColumn")) (cv := .ref (He.ga K "BadColumn")) (fun _ h => h) (MH.XAll.sub T.xall (l := [2, 8, 22, 27, 29, 32, 40]) (by decide)).xc (fun n hn => (MH.XAll.sub T.xall (l := (8 :: [2, 8, 22, 27, 29, 32, 40])) (by decide)).kt 8 List.mem_cons_self n (List.mem_cons_of_mem _ hn)))) (rz_frz (rzm_lst (rz_cons rz_str rz_nil))) (rz_frz (rzm_lst rz_nil))) rr_add) (rg_name 4))
  (rs_seq (rs_asg (b := [0]) (rz_op (rz_var 4) (rz_if (rt_B (rz_xis (u := ((uv w K C).mt mo_ []).on a cv d) (w := .ref (He.ga K "BadSign")) (cv := .ref (He.ga K "BadSign")) (fun _ h => h) (MH.XAll.sub T.xall (l := [2, 8, 22, 27, 29, 32, 40]) (by decide)).xc (fun n hn => (MH.XAll.sub T.xall (l := (29 :: [2, 8, 22, 27, 29, 32, 40])) (by decide)).kt 29 List.mem_cons_self n (List.mem_cons_of_mem _ hn)))) (rz_frz (rzm_lst (rz_cons rz_str rz_nil))) (rz_frz (rzm_lst rz_nil))) rr_add) (rg_name 4))
  (rs_seq (rs_asg (b := [0]) (rz_op (rz_var 4) (rz_if (rt_B (rz_xis (u := ((uv w K C).mt mo_ []).on a cv d) (w := .ref (He.ga K "BadThread")) (cv := .ref (He.ga K "BadThread")) (fun _ h => h) (MH.XAll.sub T.xall (l := [2, 8, 22, 27, 29, 32, 40]) (by decide)).xc (fun n hn => (MH.XAll.sub T.xall (l := (32 :: [2, 8, 22, 27, 29, 32, 40])) (by decide)).kt 32 List.mem_cons_self n (List.mem_cons_of_mem _ hn)))) (rz_frz (rzm_lst (rz_cons rz_str rz_nil))) (rz_frz (rzm_lst rz_nil))) rr_add) (rg_name 4))
  (rs_seq (rs_asg (b := [0]) (rz_op (rz_var 4) (rz_if (rt_B (rz_xis (u := ((uv w K C).mt mo_ []).on a cv d) (w := .ref (He.ga K "BadNumber")) (cv := .ref (He.ga K "BadNumber")) (fun _ h => h) (MH.XAll.sub T.xall (l := [2, 8, 22, 27, 29, 32, 40]) (by decide)).xc (fun n hn => (MH.XAll.sub T.xall (l := (22 :: [2, 8, 22, 27, 29, 32, 40])) (by decide)).kt 22 List.mem_cons_self n (List.mem_cons_of_mem _ hn)))) (rz_frz (rzm_lst (rz_cons rz_str rz_nil))) (rz_frz (rzm_lst rz_nil))) rr_add) (rg_name 4))
  (rs_ret (rz_op (rz_var 4) (rz_if (rt_B (rz_xis (u := ((uv w K C).mt mo_ []).on a cv d) (w := .ref (He.ga K "TooHeavy")) (cv := .ref (He.ga K "TooHeavy")) (fun _ h => h) (MH.XAll.sub T.xall (l := [2, 8, 22, 27, 29, 32, 40]) (by decide)).xc (fun n hn => (MH.XAll.sub T.xall (l := (40 :: [2, 8, 22, 27, 29, 32, 40])) (by decide)).kt 40 List.mem_cons_self n (List.mem_cons_of_mem _ hn)))) (rz_frz (rzm_lst (rz_cons rz_str rz_nil))) (rz_frz (rzm_lst rz_nil))) rr_add))))))) .nil))
  (rs_ret (rz_frz (rzm_lst (rz_cons rz_str rz_nil)))))
theorem ok__law_deed (T : Txt w K mg C) : FnX P w K mg base 10 ["_law_desk", "_law_kind", "_law_t"] (SpM (uv w K C) 2 F__law_deed) (fun f => mg "_law_deed" = some (.ref f)) := by
  obtain ⟨f, fd, F0, m0⟩ := T.d__law_deed
  exact ⟨f, fd, okd__law_deed T F0, m0, F0.kp, F0.bindsN fun _ _ _ _ _ _ us hl => match us, hl with | [_, _, _], _ => rfl⟩
theorem sc_Desk_own_board : FnScope ["self"] ["self"] (defScope s_Desk_own_board) := ⟨rfl, rfl, rfl, by decide +kernel, rfl, by decide +kernel, by decide +kernel⟩
def B_Desk_own_board : ML.Env → SO :=
  (retF (op2F (op2F (pfldF 0 1 "past") (op1F (cF (.int 1)) negD) ixD) (cF (.int 0)) ixD))
def F_Desk_own_board : D → List D → RtM := runM 1 B_Desk_own_board
theorem okd_Desk_own_board (T : Txt w K mg C) {f : Addr} {fd : FuncData} (F0 : FunD K "own_board" "Desk.own_board" (defArgs s_Desk_own_board) (defBody s_Desk_own_board) (defScope s_Desk_own_board) [] [] f fd) : FnOk P w K mg base CX0 1 f fd ["self"] (SpM (uv w K C) 0 F_Desk_own_board) := by
  refine okM (u := uv w K C) ⟨rfl, rfl⟩ F0 sc_Desk_own_board rfl rfl fun cdv A outer s H E hr => ⟨_, (pss_one (ps_ret (pe_ix (r := rIx K) ix_seq (pe_ix (r := rIx K) ix_seq (MH.pe_fldK (K := K) rfl (pv 0) rfl) (pe_un un_neg pe_int) (fun _ _ => rfl)) pe_int (fun _ _ => rfl)))), fun mo_ => ?_⟩
  exact (rs_ret (rz_op (rz_op (rz_pfld (u := (uv w K C).mt mo_ []) (c := 1) T.cls_Desk T.na_Desk_past) (rz_un rz_int ru_neg) rr_ix) rz_int rr_ix))
theorem ok_Desk_own_board (T : Txt w K mg C) : FnX P w K mg base 1 ["self"] (SpM (uv w K C) 0 F_Desk_own_board) (fun f => ∃ p, PropOf K (He.ga K "Desk") "own_board" p f) := by
  obtain ⟨f, fd, F0, m0⟩ := T.d_Desk_own_board
  exact ⟨f, fd, okd_Desk_own_board T F0, m0, F0.kp, F0.bindsN fun _ _ _ _ _ _ us hl => match us, hl with | [_], _ => rfl⟩
theorem sc_Desk_redo : FnScope ["self"] ["self"] (defScope s_Desk_redo) := ⟨rfl, rfl, rfl, by decide +kernel, rfl, by decide +kernel, by decide +kernel⟩
def B_Desk_redo : ML.Env → SO :=
  (seqF (ifS (testF (op2F (pfldF 0 1 "undone") (tupF nilF) eqD)) (retF (cF (.bl false))) nxF)
  (seqF (sfldF 0 1 "past" (tupF (starF (pfldF 0 1 "past") (consF (op2F (pfldF 0 1 "undone") (op1F (cF (.int 1)) negD) ixD) nilF))))
  (seqF (sfldF 0 1 "undone" (slF (pfldF 0 1 "undone") noPF (partF (op1F (cF (.int 1)) negD))))
  (retF (cF (.bl true))))))
def F_Desk_redo : D → List D → RtM := runM 1 B_Desk_redo
theorem okd_Desk_redo (T : Txt w K mg C) {f : Addr} {fd : FuncData} (F0 : FunD K "redo" "Desk.redo" (defArgs s_Desk_redo) (defBody s_Desk_redo) (defScope s_Desk_redo) [] [] f fd) : FnOk P w K mg base CX0 1 f fd ["self"] (SpM (uv w K C) 0 F_Desk_redo) := by
  refine okM (u := uv w K C) ⟨rfl, rfl⟩ F0 sc_Desk_redo rfl rfl fun cdv A outer s H E hr => ⟨_, (pss_cons (ps_if (pt_cmpR (r := rEqD K) (op_eqD hr.units) (MH.pe_fldK (K := K) rfl (pv 0) rfl) (pe_tup pa_nil) (nomark _)) (pss_one (ps_ret pe_bl)) pss_nil)
  (pss_cons (ps_fld (pv 0) (pe_tup (MH.pa_starK (K := K) rfl rfl (MH.pe_fldK (K := K) rfl (pv 0) rfl) (pa_cons (pe_ix (r := rIx K) ix_seq (MH.pe_fldK (K := K) rfl (pv 0) rfl) (pe_un un_neg pe_int) (fun _ _ => rfl)) pa_nil))) rfl)
  (pss_cons (ps_fld (pv 0) (pe_slice (r := MH.rSlAll K) MH.sl_all (MH.pe_fldK (K := K) rfl (pv 0) rfl) po_none (po_some (pe_un un_neg pe_int))) rfl)
  (pss_one (ps_ret pe_bl))))), fun mo_ => ?_⟩
  exact (rs_seq (rs_if (rt_test (rz_op (rz_pfld (u := (uv w K C).mt mo_ []) (c := 1) T.cls_Desk T.na_Desk_undone) (rz_tup rz_nil) rr_eq)) (rs_ret rz_bl) rs_next)
  (rs_seq (rs_fld (u := (uv w K C).mt mo_ []) (c := 1) (rz_tup (rz_star (rz_pfld (u := (uv w K C).mt mo_ []) (c := 1) T.cls_Desk T.na_Desk_past) (rz_cons (rz_op (rz_pfld (u := (uv w K C).mt mo_ []) (c := 1) T.cls_Desk T.na_Desk_undone) (rz_un rz_int ru_neg) rr_ix) rz_nil))) T.cls_Desk T.na_Desk_past)
  (rs_seq (rs_fld (u := (uv w K C).mt mo_ []) (c := 1) (rz_slice (rz_pfld (u := (uv w K C).mt mo_ []) (c := 1) T.cls_Desk T.na_Desk_undone) ro_none (ro_some (rz_un rz_int ru_neg))) T.cls_Desk T.na_Desk_undone)
  (rs_ret rz_bl))))
theorem ok_Desk_redo (T : Txt w K mg C) : FnX P w K mg base 1 ["self"] (SpM (uv w K C) 0 F_Desk_redo) (fun f => Meth K (He.ga K "Desk") "redo" f) := by
  obtain ⟨f, fd, F0, m0⟩ := T.d_Desk_redo
  exact ⟨f, fd, okd_Desk_redo T F0, m0, F0.kp, F0.bindsN fun _ _ _ _ _ _ us hl => match us, hl with | [_], _ => rfl⟩
theorem sc_law : FnScope ["_law_script", "_law_row", "_law_desk", "_law_kind", "_law_t", "_law_due", "_law_names", "_law_good", "_law_ends", "_law_words", "_law_name", "_law_bad", "_law_wrong", "_law_before", "_law_after"] ["_law_script"] (defScope s_law) := ⟨rfl, rfl, rfl, by decide +kernel, rfl, by decide +kernel, by decide +kernel⟩
abbrev B_law_L1 : ML.Env → SO :=
  (seqF (asgF (frzF (lstM (consF (cF .non) (consF (cF (.bl true)) (consF (cF (.str "1")) (consF (tupF (consF (cF (.int 1)) nilF)) (consF (frzF (lstM (consF (cF (.int 1)) nilF))) (consF (ifE (testF (op2F (varF 10) (cF (.str "number")) eqD)) (op1F (cF (.int 21)) negD) (op1F (cF (.int 1)) negD)) (consF (dget2EF (varF 8) (varF 10) (cF (.str ""))) nilF))))))))) (gnF 11))
  (seqF (ifS (testF (op2F (varF 10) (cF (.str "sign")) eqD)) (asgF (frzF (lstM (consF (cF .non) (consF (cF (.str "")) (consF (cF (.str "xx")) (consF (cF (.str "y")) (consF (cF (.int 0)) (consF (tupF (consF (cF (.str ".")) nilF)) (consF (frzF (lstM nilF)) (consF (cF (.str "<>")) nilF)))))))))) (gnF 11)) nxF)
  (seqF (asgF (op2F (callMF 1 1 (consF (cF (.int 3)) nilF) F__law_taken) (cF (.int 0)) eqD) (gnF 12))
  (seqF (appF 4 (ifE (testF (varF 12)) (op2F (varF 11) (callMF 1 1 (consF (cbF (consF (varF 11) nilF) (lenA 0 F_Board___len__)) nilF) F__law_taken) ixD) (dgetF (varF 7) (varF 10))))
  (asgF (op2F (varF 5) (ifE (testF (varF 12)) (frzF (lstM (consF (dget2EF (varF 9) (varF 10) (varF 10)) nilF))) (frzF (lstM nilF))) addD) (gnF 5))))))
def B_law : ML.Env → SO :=
  (seqF (setM (lstM (consF (varF 0) (consF (cF (.int 0)) (consF (cF (.int 1480)) (consF (cF (.int 0)) nilF))))) 1)
  (seqF (setM (makeM 1 1 (consF (frzF (makeM 0 1 (consF (tupF (consF (cF (.str "><")) (consF (cF (.str "x.")) (consF (cF (.str "..")) nilF)))) nilF) F_Board___init__)) nilF) F_Desk___init__) 2)
  (seqF (dropF (methMF 3 2 1 "shift" (consF (cF (.int 0)) (consF (cF (.int 4)) (consF (cF (.int 20)) nilF))) F_Desk_shift))
  (seqF (par3F 3 4 5 (consMs (fzM (callMF 1 1 (consF (cF (.int 3)) nilF) F__law_taken)) (consMs (lstM nilF) (consMs (fzM (frzF (lstM nilF))) nilMs))))
  (seqF (asgF (op2F (frzF (lstM (consF (frzF (lstM (consF (cF (.str "row")) (consF (cF (.str "column")) (consF (cF (.str "sign")) nilF))))) (consF (frzF (lstM (consF (cF (.str "row")) (consF (cF (.str "column")) (consF (cF (.str "strong")) nilF))))) (consF (frzF (lstM (consF (cF (.str "thread")) (consF (cF (.str "other")) (consF (cF (.str "number")) nilF))))) nilF))))) (varF 3) ixD) (gnF 6))
  (seqF (asgF (frzF (dispGM ["row", "column", "sign", "strong", "thread", "other", "number"] (consF (cF (.int 2)) (consF (cF (.int 1)) (consF (cF (.str "x")) (consF (cF (.int 9)) (consF (cF (.int 1)) (consF (cF (.int 3)) (consF (op1F (cF (.int 20)) negD) nilF))))))))) (gnF 7))
  (seqF (asgF (frzF (dispGM ["row", "column", "strong", "thread", "other", "number"] (consF (cF (.int 3)) (consF (cF (.int 2)) (consF (cF (.int 10)) (consF (cF (.int 5)) (consF (cF (.int 5)) (consF (cF (.int 21)) nilF)))))))) (gnF 8))
  (seqF (asgF (frzF (dispSM [("strong", "number"), ("other", "thread")])) (gnF 9))
  (seqF (forS (itF (varF 6)) (gnF 10) B_law_L1)
  (seqF (ifS (andT (testF (op2F (varF 3) (cF (.int 2)) eqD)) (andT (testF (op2F (varF 5) (frzF (lstM nilF)) eqD)) (testF (op2F (callMF 1 1 (consF (cF (.int 2)) nilF) F__law_taken) (cF (.int 0)) eqD)))) (parF 4 5 (fzM (op2F (frzF (lstM (consF (frzF (lstM (consF (cF (.int 0)) (consF (cF (.int 1)) (consF (cF (.int 1)) nilF))))) (consF (frzF (lstM (consF (cF (.int 4)) (consF (cF (.int 1)) (consF (op1F (cF (.int 1)) negD) nilF))))) (consF (frzF (lstM (consF (cF (.int 1)) (consF (cF (.int 0)) (consF (op1F (cF (.int 20)) negD) nilF))))) (consF (frzF (lstM (consF (cF (.int 0)) (consF (cF (.int 4)) (consF (cF (.int 1)) nilF))))) nilF)))))) (callMF 1 1 (consF (cF (.int 4)) nilF) F__law_taken) ixD)) (fzM (frzF (lstM (consF (cF (.str "heavy")) nilF))))) nxF)
  (seqF (asgF (frzF (lstM (consF (propF (propMF 2 1 F_Desk_own_board) 0 F_Board_cells) (consF (propMF 2 1 F_Desk_own_load) (consF (propMF 2 1 F_Desk_own_strengths) (consF (lenMF 2 1 F_Desk___len__) nilF)))))) (gnF 13))
  (seqF (ifS (testF (op2F (callMF 2 2 (consF (varF 3) (consF (varF 4) nilF)) F__law_deed) (slF (op2F (varF 5) (frzF (lstM (consF (cF (.str "good")) nilF))) addD) noPF (partF (cF (.int 1)))) neD)) (retF (cF (.bl false))) nxF)
  (seqF (asgF (frzF (lstM (consF (propF (propMF 2 1 F_Desk_own_board) 0 F_Board_cells) (consF (propMF 2 1 F_Desk_own_load) (consF (propMF 2 1 F_Desk_own_strengths) (consF (lenMF 2 1 F_Desk___len__) nilF)))))) (gnF 14))
  (seqF (ifS (orT (andT (testF (op2F (varF 5) (frzF (lstM nilF)) neD)) (orT (testF (op2F (varF 14) (varF 13) neD)) (testF (methMF 0 2 1 "redo" nilF F_Desk_redo)))) (andT (testF (op2F (varF 5) (frzF (lstM nilF)) eqD)) (testF (op2F (lenMF 2 1 F_Desk___len__) (cF (.int 2)) neD)))) (retF (cF (.bl false))) nxF)
  (retF (callF 1 (consF (op2F (frzF (lstM (consF (cF .non) (consF (tupF (consF (cF (.str "><")) nilF)) (consF (cF (.str "x")) (consF (cF (.int 3)) (consF (frzF dnewM) (consF (frzF (lstM (consF (tupF (consF (cF (.str "x")) nilF)) nilF))) nilF)))))))) (callMF 1 1 (consF (cF (.int 6)) nilF) F__law_taken) ixD) nilF) F__law_made))))))))))))))))
def F_law : List D → Rt := runF 15 B_law
theorem okd_law (T : Txt w K mg C) {f : Addr} {fd : FuncData} (F0 : FunD K "law" "law" (defArgs s_law) (defBody s_law) (defScope s_law) [] [] f fd) : FnOk P w K mg base CX0 11 f fd ["_law_script"] (SpF (uv w K C) 1 F_law) := by
  obtain ⟨f_Desk___init__, fd_Desk___init__, G_Desk___init__, m_Desk___init__, k_Desk___init__, b_Desk___init__⟩ := ok_Desk___init__ (P := P) (w := w) (base := base) T
  obtain ⟨f_Board___init__, fd_Board___init__, G_Board___init__, m_Board___init__, k_Board___init__, b_Board___init__⟩ := ok_Board___init__ (P := P) (w := w) (base := base) T
  obtain ⟨f_Desk_shift, fd_Desk_shift, G_Desk_shift, m_Desk_shift, k_Desk_shift, b_Desk_shift⟩ := ok_Desk_shift (P := P) (w := w) (base := base) T
  obtain ⟨f__law_taken, fd__law_taken, G__law_taken, m__law_taken, k__law_taken, b__law_taken⟩ := ok__law_taken (P := P) (w := w) (base := base) T
  obtain ⟨f_Board___len__, fd_Board___len__, G_Board___len__, m_Board___len__, k_Board___len__, b_Board___len__⟩ := ok_Board___len__ (P := P) (w := w) (base := base) T
  obtain ⟨f_Desk___len__, fd_Desk___len__, G_Desk___len__, m_Desk___len__, k_Desk___len__, b_Desk___len__⟩ := ok_Desk___len__ (P := P) (w := w) (base := base) T
  obtain ⟨f_Desk_own_strengths, fd_Desk_own_strengths, G_Desk_own_strengths, ⟨p_Desk_own_strengths, m_Desk_own_strengths⟩, k_Desk_own_strengths, b_Desk_own_strengths⟩ := ok_Desk_own_strengths (P := P) (w := w) (base := base) T
  obtain ⟨f_Desk_own_load, fd_Desk_own_load, G_Desk_own_load, ⟨p_Desk_own_load, m_Desk_own_load⟩, k_Desk_own_load, b_Desk_own_load⟩ := ok_Desk_own_load (P := P) (w := w) (base := base) T
  obtain ⟨f_Board_cells, fd_Board_cells, G_Board_cells, ⟨p_Board_cells, m_Board_cells⟩, k_Board_cells, b_Board_cells⟩ := ok_Board_cells (P := P) (w := w) (base := base) T
  obtain ⟨f_Desk_own_board, fd_Desk_own_board, G_Desk_own_board, ⟨p_Desk_own_board, m_Desk_own_board⟩, k_Desk_own_board, b_Desk_own_board⟩ := ok_Desk_own_board (P := P) (w := w) (base := base) T
  obtain ⟨f__law_deed, fd__law_deed, G__law_deed, m__law_deed, k__law_deed, b__law_deed⟩ := ok__law_deed (P := P) (w := w) (base := base) T
  obtain ⟨f_Desk_redo, fd_Desk_redo, G_Desk_redo, m_Desk_redo, k_Desk_redo, b_Desk_redo⟩ := ok_Desk_redo (P := P) (w := w) (base := base) T
  obtain ⟨f__law_made, fd__law_made, G__law_made, m__law_made, k__law_made, b__law_made⟩ := ok__law_made (P := P) (w := w) (base := base) T
  refine okF (u := uv w K C) ⟨rfl, rfl⟩ F0 sc_law rfl fun cdv A outer s H E hr => ⟨_, (pss_cons (ps_set (i := 1) sc_law.nd rfl (Or.inl rfl) (pe_lst (pa_cons (pv 0) (pa_cons pe_int (pa_cons pe_int (pa_cons pe_int pa_nil))))))
  (pss_cons (ps_set (i := 2) sc_law.nd rfl (Or.inl rfl) (pe_make m_Desk___init__ G_Desk___init__ (hr.mono (by decide)) rfl T.mg_Desk b_Desk___init__ .nil pass0 (pa_cons (pe_make m_Board___init__ G_Board___init__ (hr.mono (by decide)) rfl T.mg_Board b_Board___init__ .nil pass0 (pa_cons (pe_tup (pa_cons pe_str (pa_cons pe_str (pa_cons pe_str pa_nil)))) pa_nil)) pa_nil)))
  (pss_cons (ps_expr (pe_meth (pv 2) T.cls_Desk m_Desk_shift G_Desk_shift (hr.mono (by decide)) b_Desk_shift .nil pass0 (pa_cons pe_int (pa_cons pe_int (pa_cons pe_int pa_nil)))))
  (pss_cons (ps_par3 (i := 3) (j := 4) (l := 5) rfl sc_law.nd rfl rfl rfl (by decide) (by decide) (by decide) rfl rfl rfl (pa_cons (pe_call G__law_taken (hr.mono (by decide)) rfl m__law_taken k__law_taken b__law_taken .nil pass0 (pa_cons (pv 1) (pa_cons pe_int pa_nil))) (pa_cons (pe_lst pa_nil) (pa_cons (pe_lst pa_nil) pa_nil))) (by rfl))
  (pss_cons (ps_set (i := 6) sc_law.nd rfl (Or.inl rfl) (pe_ix (r := rIx K) ix_seq (pe_lst (pa_cons (pe_lst (pa_cons pe_str (pa_cons pe_str (pa_cons pe_str pa_nil)))) (pa_cons (pe_lst (pa_cons pe_str (pa_cons pe_str (pa_cons pe_str pa_nil)))) (pa_cons (pe_lst (pa_cons pe_str (pa_cons pe_str (pa_cons pe_str pa_nil)))) pa_nil)))) (pv 3) (fun _ _ => rfl)))
  (pss_cons (ps_set (i := 7) sc_law.nd rfl (Or.inl rfl) (pe_disp (pps_cons pe_str pe_int (pps_cons pe_str pe_int (pps_cons pe_str pe_str (pps_cons pe_str pe_int (pps_cons pe_str pe_int (pps_cons pe_str pe_int (pps_cons pe_str (pe_un un_neg pe_int) pps_nil))))))) (by rfl) (by rfl) (fun z => by cases z) (by decide)))
  (pss_cons (ps_set (i := 8) sc_law.nd rfl (Or.inl rfl) (pe_disp (pps_cons pe_str pe_int (pps_cons pe_str pe_int (pps_cons pe_str pe_int (pps_cons pe_str pe_int (pps_cons pe_str pe_int (pps_cons pe_str pe_int pps_nil)))))) (by rfl) (by rfl) (fun z => by cases z) (by decide)))
  (pss_cons (ps_set (i := 9) sc_law.nd rfl (Or.inl rfl) (pe_disp (pps_cons pe_str pe_str (pps_cons pe_str pe_str pps_nil)) (by rfl) (by rfl) (fun z => by cases z) (by decide)))
  (pss_cons (ps_for PassesOwn.never rfl (MH.pi_anyK (K := K) rfl (pv 6)) (pg_name (i := 10) sc_law.nd rfl (Or.inl rfl)) (pss_cons (ps_set (i := 11) sc_law.nd rfl (Or.inl rfl) (pe_lst (pa_cons pe_non (pa_cons pe_bl (pa_cons pe_str (pa_cons (pe_tup (pa_cons pe_int pa_nil)) (pa_cons (pe_lst (pa_cons pe_int pa_nil)) (pa_cons (pe_ifExp (pt_cmpR (r := rEqD K) (op_eqD hr.units) (pv 10) pe_str (nomark _)) (pe_un un_neg pe_int) (pe_un un_neg pe_int)) (pa_cons (pe_dget2 (hu_of hr) (pv 8) (pv 10) pe_str ⟨rfl, rfl, rfl, rfl⟩) pa_nil)))))))))
  (pss_cons (ps_if (pt_cmpR (r := rEqD K) (op_eqD hr.units) (pv 10) pe_str (nomark _)) (pss_one (ps_set (i := 11) sc_law.nd rfl (Or.inl rfl) (pe_lst (pa_cons pe_non (pa_cons pe_str (pa_cons pe_str (pa_cons pe_str (pa_cons pe_int (pa_cons (pe_tup (pa_cons pe_str pa_nil)) (pa_cons (pe_lst pa_nil) (pa_cons pe_str pa_nil))))))))))) pss_nil)
  (pss_cons (ps_set (i := 12) sc_law.nd rfl (Or.inl rfl) (pe_cmpR (r := rEqD K) (op_eqD hr.units) (pe_call G__law_taken (hr.mono (by decide)) rfl m__law_taken k__law_taken b__law_taken .nil pass0 (pa_cons (pv 1) (pa_cons pe_int pa_nil))) pe_int (nomark _)))
  (pss_cons (ps_expr (pe_bm PySem.F.plainAttrs_list PySem.F.slot_list_append PySem.F.type_list_append mt_append (pv 4) (pa_cons (pe_ifExp (pt_val (pv 12)) (pe_ix (r := rIx K) ix_seq (pv 11) (pe_call G__law_taken (hr.mono (by decide)) rfl m__law_taken k__law_taken b__law_taken .nil pass0 (pa_cons (pv 1) (pa_cons (pe_callB (r := MH.rLenA K C (SpF (uv w K C) 1 F_Board___len__)) (MH.call_lenA m_Board___len__ G_Board___len__ (hr.mono (by decide)) b_Board___len__) rfl T.n_len (by decide +kernel) (pa_cons (pv 11) pa_nil)) pa_nil))) (fun _ _ => rfl)) (pe_dget (hu_of hr) (pv 7) (pv 10) (fun _ _ => rfl))) pa_nil)))
  (pss_one (ps_set (i := 5) sc_law.nd rfl (Or.inl rfl) (pe_op (r := MH.rAddA K) MH.op_addA (pv 5) (pe_ifExp (pt_val (pv 12)) (pe_lst (pa_cons (pe_dget2 (hu_of hr) (pv 9) (pv 10) (pv 10) ⟨rfl, rfl, rfl, rfl⟩) pa_nil)) (pe_lst pa_nil))))))))))
  (pss_cons (ps_if (PW.pt (pw_and (pt_cmpR (r := rEqD K) (op_eqD hr.units) (pv 3) pe_int (nomark _)) (pw_and (pt_cmpR (r := rEqD K) (op_eqD hr.units) (pv 5) (pe_lst pa_nil) (nomark _)) (pw_and1 (pt_cmpR (r := rEqD K) (op_eqD hr.units) (pe_call G__law_taken (hr.mono (by decide)) rfl m__law_taken k__law_taken b__law_taken .nil pass0 (pa_cons (pv 1) (pa_cons pe_int pa_nil))) pe_int (nomark _)))))) (pss_one (ps_par (i := 4) (j := 5) rfl sc_law.nd rfl rfl (by decide) rfl rfl (pa_cons (pe_ix (r := rIx K) ix_seq (pe_lst (pa_cons (pe_lst (pa_cons pe_int (pa_cons pe_int (pa_cons pe_int pa_nil)))) (pa_cons (pe_lst (pa_cons pe_int (pa_cons pe_int (pa_cons (pe_un un_neg pe_int) pa_nil)))) (pa_cons (pe_lst (pa_cons pe_int (pa_cons pe_int (pa_cons (pe_un un_neg pe_int) pa_nil)))) (pa_cons (pe_lst (pa_cons pe_int (pa_cons pe_int (pa_cons pe_int pa_nil)))) pa_nil))))) (pe_call G__law_taken (hr.mono (by decide)) rfl m__law_taken k__law_taken b__law_taken .nil pass0 (pa_cons (pv 1) (pa_cons pe_int pa_nil))) (fun _ _ => rfl)) (pa_cons (pe_lst (pa_cons pe_str pa_nil)) pa_nil)) (by rfl))) pss_nil)
  (pss_cons (ps_set (i := 13) sc_law.nd rfl (Or.inl rfl) (pe_lst (pa_cons (MH.pe_propK (K := K) rfl (MH.pe_propK (K := K) rfl (pv 2) T.cls_Desk m_Desk_own_board G_Desk_own_board (hr.mono (by decide)) b_Desk_own_board pass0 rfl) T.cls_Board m_Board_cells G_Board_cells (hr.mono (by decide)) b_Board_cells pass0 rfl) (pa_cons (MH.pe_propK (K := K) rfl (pv 2) T.cls_Desk m_Desk_own_load G_Desk_own_load (hr.mono (by decide)) b_Desk_own_load pass0 rfl) (pa_cons (MH.pe_propK (K := K) rfl (pv 2) T.cls_Desk m_Desk_own_strengths G_Desk_own_strengths (hr.mono (by decide)) b_Desk_own_strengths pass0 rfl) (pa_cons (pe_callB (r := MH.rLenO (He.ga K "Desk") (SpM (uv w K C) 0 F_Desk___len__)) (MH.call_lenO m_Desk___len__ G_Desk___len__ (hr.mono (by decide)) b_Desk___len__) rfl T.n_len (by decide +kernel) (pa_cons (pv 2) pa_nil)) pa_nil))))))
  (pss_cons (ps_if (pt_cmpR (r := rNeD K) (op_neD hr.units) (pe_call G__law_deed (hr.mono (by decide)) rfl m__law_deed k__law_deed b__law_deed .nil pass0 (pa_cons (pv 2) (pa_cons (pv 3) (pa_cons (pv 4) pa_nil)))) (pe_slice (r := MH.rSlAll K) MH.sl_all (pe_op (r := MH.rAddA K) MH.op_addA (pv 5) (pe_lst (pa_cons pe_str pa_nil))) po_none (po_some pe_int)) (nomark _)) (pss_one (ps_ret pe_bl)) pss_nil)
  (pss_cons (ps_set (i := 14) sc_law.nd rfl (Or.inl rfl) (pe_lst (pa_cons (MH.pe_propK (K := K) rfl (MH.pe_propK (K := K) rfl (pv 2) T.cls_Desk m_Desk_own_board G_Desk_own_board (hr.mono (by decide)) b_Desk_own_board pass0 rfl) T.cls_Board m_Board_cells G_Board_cells (hr.mono (by decide)) b_Board_cells pass0 rfl) (pa_cons (MH.pe_propK (K := K) rfl (pv 2) T.cls_Desk m_Desk_own_load G_Desk_own_load (hr.mono (by decide)) b_Desk_own_load pass0 rfl) (pa_cons (MH.pe_propK (K := K) rfl (pv 2) T.cls_Desk m_Desk_own_strengths G_Desk_own_strengths (hr.mono (by decide)) b_Desk_own_strengths pass0 rfl) (pa_cons (pe_callB (r := MH.rLenO (He.ga K "Desk") (SpM (uv w K C) 0 F_Desk___len__)) (MH.call_lenO m_Desk___len__ G_Desk___len__ (hr.mono (by decide)) b_Desk___len__) rfl T.n_len (by decide +kernel) (pa_cons (pv 2) pa_nil)) pa_nil))))))
  (pss_cons (ps_if (PW.pt (pw_or (PW.pt (pw_and (pt_cmpR (r := rNeD K) (op_neD hr.units) (pv 5) (pe_lst pa_nil) (nomark _)) (pw_and1 (PW.pt (pw_or (pt_cmpR (r := rNeD K) (op_neD hr.units) (pv 14) (pv 13) (nomark _)) (pw_or1 (pt_val (pe_meth0 (pv 2) T.cls_Desk m_Desk_redo G_Desk_redo (hr.mono (by decide)) b_Desk_redo .nil pass0)))))))) (pw_or1 (PW.pt (pw_and (pt_cmpR (r := rEqD K) (op_eqD hr.units) (pv 5) (pe_lst pa_nil) (nomark _)) (pw_and1 (pt_cmpR (r := rNeD K) (op_neD hr.units) (pe_callB (r := MH.rLenO (He.ga K "Desk") (SpM (uv w K C) 0 F_Desk___len__)) (MH.call_lenO m_Desk___len__ G_Desk___len__ (hr.mono (by decide)) b_Desk___len__) rfl T.n_len (by decide +kernel) (pa_cons (pv 2) pa_nil)) pe_int (nomark _)))))))) (pss_one (ps_ret pe_bl)) pss_nil)
  (pss_one (ps_ret (pe_call G__law_made (hr.mono (by decide)) rfl m__law_made k__law_made b__law_made .nil pass0 (pa_cons (pe_ix (r := rIx K) ix_seq (pe_lst (pa_cons pe_non (pa_cons (pe_tup (pa_cons pe_str pa_nil)) (pa_cons pe_str (pa_cons pe_int (pa_cons pe_dnewK (pa_cons (pe_lst (pa_cons (pe_tup (pa_cons pe_str pa_nil)) pa_nil)) pa_nil))))))) (pe_call G__law_taken (hr.mono (by decide)) rfl m__law_taken k__law_taken b__law_taken .nil pass0 (pa_cons (pv 1) (pa_cons pe_int pa_nil))) (fun _ _ => rfl)) pa_nil)))))))))))))))))), fun mo_ => ?_⟩
  exact (rs_seq (rs_setM (b := []) (rzm_lst (rz_cons (rz_var 0) (rz_cons rz_int (rz_cons rz_int (rz_cons rz_int rz_nil))))))
  (rs_seq (rs_setM (b := []) (rzm_make (u := (uv w K C).mt mo_ []) (c := 1) (rz_cons (rz_frz (rzm_make (u := (uv w K C).mt mo_ []) (c := 0) (rz_cons (rz_tup (rz_cons rz_str (rz_cons rz_str (rz_cons rz_str rz_nil)))) rz_nil))) rz_nil)))
  (rs_seq (rs_drop (rz_methM (u := (uv w K C).mt mo_ []) (c := 1) (rz_cons rz_int (rz_cons rz_int (rz_cons rz_int rz_nil)))))
  (rs_seq (rs_par3 (b := []) (rms_cons (rzm_fz (rz_callM (rz_cons rz_int rz_nil))) (rms_cons (rzm_lst rz_nil) (rms_cons (rzm_fz (rz_frz (rzm_lst rz_nil))) rms_nil))))
  (rs_seq (rs_asg (b := []) (rz_op (rz_frz (rzm_lst (rz_cons (rz_frz (rzm_lst (rz_cons rz_str (rz_cons rz_str (rz_cons rz_str rz_nil))))) (rz_cons (rz_frz (rzm_lst (rz_cons rz_str (rz_cons rz_str (rz_cons rz_str rz_nil))))) (rz_cons (rz_frz (rzm_lst (rz_cons rz_str (rz_cons rz_str (rz_cons rz_str rz_nil))))) rz_nil))))) (rz_var 3) rr_ix) (rg_name 6))
  (rs_seq (rs_asg (b := []) (rz_frz (rzm_dispG (rps_cons rz_int (rps_cons rz_int (rps_cons rz_str (rps_cons rz_int (rps_cons rz_int (rps_cons rz_int (rps_cons (rz_un rz_int ru_neg) rps_nil))))))) (by decide) (by decide))) (rg_name 7))
  (rs_seq (rs_asg (b := []) (rz_frz (rzm_dispG (rps_cons rz_int (rps_cons rz_int (rps_cons rz_int (rps_cons rz_int (rps_cons rz_int (rps_cons rz_int rps_nil)))))) (by decide) (by decide))) (rg_name 8))
  (rs_seq (rs_asg (b := []) (rz_frz (rzm_dispS [("strong", "number"), ("other", "thread")] (by kernel_rfl) (by decide))) (rg_name 9))
  (rs_seq (rs_for (b := []) (ri_any (rz_var 6)) (rg_name 10) (rs_seq (rs_asg (b := []) (rz_frz (rzm_lst (rz_cons rz_non (rz_cons rz_bl (rz_cons rz_str (rz_cons (rz_tup (rz_cons rz_int rz_nil)) (rz_cons (rz_frz (rzm_lst (rz_cons rz_int rz_nil))) (rz_cons (rz_if (rt_test (rz_op (rz_var 10) rz_str rr_eq)) (rz_un rz_int ru_neg) (rz_un rz_int ru_neg)) (rz_cons (rz_dget2E (rz_var 8) (rz_var 10) rz_str) rz_nil))))))))) (rg_name 11))
  (rs_seq (rs_if (rt_test (rz_op (rz_var 10) rz_str rr_eq)) (rs_asg (b := []) (rz_frz (rzm_lst (rz_cons rz_non (rz_cons rz_str (rz_cons rz_str (rz_cons rz_str (rz_cons rz_int (rz_cons (rz_tup (rz_cons rz_str rz_nil)) (rz_cons (rz_frz (rzm_lst rz_nil)) (rz_cons rz_str rz_nil)))))))))) (rg_name 11)) rs_next)
  (rs_seq (rs_asg (b := []) (rz_op (rz_callM (rz_cons rz_int rz_nil)) rz_int rr_eq) (rg_name 12))
  (rs_seq (rs_app (rz_if (rt_B (rz_var 12)) (rz_op (rz_var 11) (rz_callM (rz_cons (rz_cb (rz_cons (rz_var 11) rz_nil) rc_lenA) rz_nil)) rr_ix) (rz_dget (rz_var 7) (rz_var 10))))
  (rs_asg (b := []) (rz_op (rz_var 5) (rz_if (rt_B (rz_var 12)) (rz_frz (rzm_lst (rz_cons (rz_dget2E (rz_var 9) (rz_var 10) (rz_var 10)) rz_nil))) (rz_frz (rzm_lst rz_nil))) rr_add) (rg_name 5)))))))
  (rs_seq (rs_if (rt_and (rt_test (rz_op (rz_var 3) rz_int rr_eq)) (rt_and (rt_test (rz_op (rz_var 5) (rz_frz (rzm_lst rz_nil)) rr_eq)) (rt_test (rz_op (rz_callM (rz_cons rz_int rz_nil)) rz_int rr_eq)))) (rs_par (b := []) (rzm_fz (rz_op (rz_frz (rzm_lst (rz_cons (rz_frz (rzm_lst (rz_cons rz_int (rz_cons rz_int (rz_cons rz_int rz_nil))))) (rz_cons (rz_frz (rzm_lst (rz_cons rz_int (rz_cons rz_int (rz_cons (rz_un rz_int ru_neg) rz_nil))))) (rz_cons (rz_frz (rzm_lst (rz_cons rz_int (rz_cons rz_int (rz_cons (rz_un rz_int ru_neg) rz_nil))))) (rz_cons (rz_frz (rzm_lst (rz_cons rz_int (rz_cons rz_int (rz_cons rz_int rz_nil))))) rz_nil)))))) (rz_callM (rz_cons rz_int rz_nil)) rr_ix)) (rzm_fz (rz_frz (rzm_lst (rz_cons rz_str rz_nil))))) rs_next)
  (rs_seq (rs_asg (b := []) (rz_frz (rzm_lst (rz_cons (rz_prop (u := (uv w K C).mt mo_ []) (c := 0) (rz_propM (u := (uv w K C).mt mo_ []) (c := 1))) (rz_cons (rz_propM (u := (uv w K C).mt mo_ []) (c := 1)) (rz_cons (rz_propM (u := (uv w K C).mt mo_ []) (c := 1)) (rz_cons (rz_lenM (u := (uv w K C).mt mo_ []) (c := 1)) rz_nil)))))) (rg_name 13))
  (rs_seq (rs_if (rt_test (rz_op (rz_callM (rz_cons (rz_var 3) (rz_cons (rz_var 4) rz_nil))) (rz_slice (rz_op (rz_var 5) (rz_frz (rzm_lst (rz_cons rz_str rz_nil))) rr_add) ro_none (ro_some rz_int)) rr_ne)) (rs_ret rz_bl) rs_next)
  (rs_seq (rs_asg (b := []) (rz_frz (rzm_lst (rz_cons (rz_prop (u := (uv w K C).mt mo_ []) (c := 0) (rz_propM (u := (uv w K C).mt mo_ []) (c := 1))) (rz_cons (rz_propM (u := (uv w K C).mt mo_ []) (c := 1)) (rz_cons (rz_propM (u := (uv w K C).mt mo_ []) (c := 1)) (rz_cons (rz_lenM (u := (uv w K C).mt mo_ []) (c := 1)) rz_nil)))))) (rg_name 14))
  (rs_seq (rs_if (rt_or (rt_and (rt_test (rz_op (rz_var 5) (rz_frz (rzm_lst rz_nil)) rr_ne)) (rt_or (rt_test (rz_op (rz_var 14) (rz_var 13) rr_ne)) (rt_B (rz_methM (u := (uv w K C).mt mo_ []) (c := 1) rz_nil)))) (rt_and (rt_test (rz_op (rz_var 5) (rz_frz (rzm_lst rz_nil)) rr_eq)) (rt_test (rz_op (rz_lenM (u := (uv w K C).mt mo_ []) (c := 1)) rz_int rr_ne)))) (rs_ret rz_bl) rs_next)
  (rs_ret (rz_call0 (rz_cons (rz_op (rz_frz (rzm_lst (rz_cons rz_non (rz_cons (rz_tup (rz_cons rz_str rz_nil)) (rz_cons rz_str (rz_cons rz_int (rz_cons (rz_frz rzm_dnew) (rz_cons (rz_frz (rzm_lst (rz_cons (rz_tup (rz_cons rz_str rz_nil)) rz_nil))) rz_nil)))))))) (rz_callM (rz_cons rz_int rz_nil)) rr_ix) rz_nil)))))))))))))))))
end
def h_need_board : He.DefD := ⟨("need_board", none), "need_board", "need_board", defArgs s_need_board, defBody s_need_board, defScope s_need_board, [], []⟩
def h_Board___len__ : He.DefD := ⟨("Board", some "__len__"), "__len__", "Board.__len__", defArgs s_Board___len__, defBody s_Board___len__, defScope s_Board___len__, [], []⟩
def h_Board_rows : He.DefD := ⟨("Board", some "rows"), "rows", "Board.rows", defArgs s_Board_rows, defBody s_Board_rows, defScope s_Board_rows, [], []⟩
def h_all_steps : He.DefD := ⟨("all_steps", none), "all_steps", "all_steps", defArgs s_all_steps, defBody s_all_steps, defScope s_all_steps, [], []⟩
def h_strengths_of : He.DefD := ⟨("strengths_of", none), "strengths_of", "strengths_of", defArgs s_strengths_of, defBody s_strengths_of, defScope s_strengths_of, [], []⟩
def h_Board_columns : He.DefD := ⟨("Board", some "columns"), "columns", "Board.columns", defArgs s_Board_columns, defBody s_Board_columns, defScope s_Board_columns, [], []⟩
def h_Desk___init__ : He.DefD := ⟨("Desk", some "__init__"), "__init__", "Desk.__init__", defArgs s_Desk___init__, defBody s_Desk___init__, defScope s_Desk___init__, [], []⟩
def h__law_made : He.DefD := ⟨("_law_made", none), "_law_made", "_law_made", defArgs s__law_made, defBody s__law_made, defScope s__law_made, [], []⟩
def h_is_line : He.DefD := ⟨("is_line", none), "is_line", "is_line", defArgs s_is_line, defBody s_is_line, defScope s_is_line, [], []⟩
def h_Board___init__ : He.DefD := ⟨("Board", some "__init__"), "__init__", "Board.__init__", defArgs s_Board___init__, defBody s_Board___init__, defScope s_Board___init__, [], []⟩
def h_is_from : He.DefD := ⟨("is_from", none), "is_from", "is_from", defArgs s_is_from, defBody s_is_from, defScope s_is_from, [], []⟩
def h_is_thread : He.DefD := ⟨("is_thread", none), "is_thread", "is_thread", defArgs s_is_thread, defBody s_is_thread, defScope s_is_thread, [], []⟩
def h_need_thread : He.DefD := ⟨("need_thread", none), "need_thread", "need_thread", defArgs s_need_thread, defBody s_need_thread, defScope s_need_thread, [], []⟩
def h_Desk_set_state : He.DefD := ⟨("Desk", some "set_state"), "set_state", "Desk.set_state", defArgs s_Desk_set_state, defBody s_Desk_set_state, defScope s_Desk_set_state, [], []⟩
def h_Desk_shift : He.DefD := ⟨("Desk", some "shift"), "shift", "Desk.shift", defArgs s_Desk_shift, defBody s_Desk_shift, defScope s_Desk_shift, [], []⟩
def h__law_taken : He.DefD := ⟨("_law_taken", none), "_law_taken", "_law_taken", defArgs s__law_taken, defBody s__law_taken, defScope s__law_taken, [], []⟩
def h_Board_cells : He.DefD := ⟨("Board", some "cells"), "cells", "Board.cells", defArgs s_Board_cells, defBody s_Board_cells, defScope s_Board_cells, [], []⟩
def h_Desk_own_load : He.DefD := ⟨("Desk", some "own_load"), "own_load", "Desk.own_load", defArgs s_Desk_own_load, defBody s_Desk_own_load, defScope s_Desk_own_load, [], []⟩
def h_Desk_own_strengths : He.DefD := ⟨("Desk", some "own_strengths"), "own_strengths", "Desk.own_strengths", defArgs s_Desk_own_strengths, defBody s_Desk_own_strengths, defScope s_Desk_own_strengths, [], []⟩
def h_Desk___len__ : He.DefD := ⟨("Desk", some "__len__"), "__len__", "Desk.__len__", defArgs s_Desk___len__, defBody s_Desk___len__, defScope s_Desk___len__, [], []⟩
def h_Desk_need_cell : He.DefD := ⟨("Desk", some "need_cell"), "need_cell", "Desk.need_cell", defArgs s_Desk_need_cell, defBody s_Desk_need_cell, defScope s_Desk_need_cell, [], []⟩
def h_with_cell : He.DefD := ⟨("with_cell", none), "with_cell", "with_cell", defArgs s_with_cell, defBody s_with_cell, defScope s_with_cell, [], []⟩
def h_Desk_put : He.DefD := ⟨("Desk", some "put"), "put", "Desk.put", defArgs s_Desk_put, defBody s_Desk_put, defScope s_Desk_put, [], []⟩
def h_Desk_strengthen : He.DefD := ⟨("Desk", some "strengthen"), "strengthen", "Desk.strengthen", defArgs s_Desk_strengthen, defBody s_Desk_strengthen, defScope s_Desk_strengthen, [], []⟩
def h__law_deed : He.DefD := ⟨("_law_deed", none), "_law_deed", "_law_deed", defArgs s__law_deed, defBody s__law_deed, defScope s__law_deed, [], []⟩
def h_Desk_own_board : He.DefD := ⟨("Desk", some "own_board"), "own_board", "Desk.own_board", defArgs s_Desk_own_board, defBody s_Desk_own_board, defScope s_Desk_own_board, [], []⟩
def h_Desk_redo : He.DefD := ⟨("Desk", some "redo"), "redo", "Desk.redo", defArgs s_Desk_redo, defBody s_Desk_redo, defScope s_Desk_redo, [], []⟩
def h_law : He.DefD := ⟨("law", none), "law", "law", defArgs s_law, defBody s_law, defScope s_law, [], []⟩
def h_BadBoard___init__ : He.DefD := ⟨("BadBoard", some "__init__"), "__init__", "BadBoard.__init__", defArgs s_BadBoard___init__, defBody s_BadBoard___init__, defScope s_BadBoard___init__, [], []⟩
def h_BadColumn___init__ : He.DefD := ⟨("BadColumn", some "__init__"), "__init__", "BadColumn.__init__", defArgs s_BadColumn___init__, defBody s_BadColumn___init__, defScope s_BadColumn___init__, [], []⟩
def h_BadRow___init__ : He.DefD := ⟨("BadRow", some "__init__"), "__init__", "BadRow.__init__", defArgs s_BadRow___init__, defBody s_BadRow___init__, defScope s_BadRow___init__, [], []⟩
def h_BadSign___init__ : He.DefD := ⟨("BadSign", some "__init__"), "__init__", "BadSign.__init__", defArgs s_BadSign___init__, defBody s_BadSign___init__, defScope s_BadSign___init__, [], []⟩
def h_BadThread___init__ : He.DefD := ⟨("BadThread", some "__init__"), "__init__", "BadThread.__init__", defArgs s_BadThread___init__, defBody s_BadThread___init__, defScope s_BadThread___init__, [], []⟩
def fn : List He.DefD := [h_need_board, h_Board___len__, h_all_steps, h_strengths_of, h_Desk___init__, h__law_made, h_is_line, h_Board___init__, h_is_from, h_is_thread, h_need_thread, h_Desk_set_state, h_Desk_shift, h__law_taken, h_Desk___len__, h_Desk_need_cell, h_with_cell, h_Desk_put, h_Desk_strengthen, h__law_deed, h_Desk_redo, h_law, h_BadBoard___init__, h_BadColumn___init__, h_BadRow___init__, h_BadSign___init__, h_BadThread___init__]
def pr : List ((Str × Str) × He.DefD) := [(("Board", "rows"), h_Board_rows), (("Board", "columns"), h_Board_columns), (("Board", "cells"), h_Board_cells), (("Desk", "own_load"), h_Desk_own_load), (("Desk", "own_strengths"), h_Desk_own_strengths), (("Desk", "own_board"), h_Desk_own_board)]
def fa : List He.Fa := [.glo "need_board", .meth "Board" "__len__", .glo "all_steps", .glo "strengths_of", .mkr "Desk", .glo "_law_made", .glo "is_line", .mkr "Board", .glo "is_from", .glo "is_thread", .glo "need_thread", .meth "Desk" "set_state", .meth "Desk" "shift", .glo "_law_taken", .meth "Desk" "__len__", .meth "Desk" "need_cell", .glo "with_cell", .meth "Desk" "put", .meth "Desk" "strengthen", .glo "_law_deed", .meth "Desk" "redo", .glo "law", .free "all", .free "bool", .free "enumerate", .free "int", .free "isinstance", .free "len", .free "list", .free "max", .free "min", .free "sorted", .free "str", .free "tuple", .int "FIRST_STRENGTH" 1, .int "MOST_LINES" 5, .int "MOST_LOAD" 20, .int "MOST_STRENGTH" 9, .str "SIGNS" ".<>x", .glo "WovenError", .glo "BadBoard", .glo "BadColumn", .glo "BadNumber", .glo "BadRow", .glo "BadSign", .glo "BadThread", .glo "TooHeavy", .glo "Board", .cls "Board", .noat "Board" "table", .glo "Desk", .cls "Desk", .noat "Desk" "past", .noat "Desk" "undone"]
def ck : List (PySem.W.Frag → Bool) := [fun K => clsChk K (He.ga K "Board"), fun K => errB K "WovenError", fun K => errB K "BadBoard", fun K => errB K "BadColumn", fun K => errB K "BadNumber", fun K => errB K "BadRow", fun K => errB K "BadSign", fun K => errB K "BadThread", fun K => errB K "TooHeavy", fun K => exc0B K "BadNumber", fun K => exc0B K "TooHeavy", fun K => initB K "BadBoard", fun K => initB K "BadColumn", fun K => initB K "BadRow", fun K => initB K "BadSign", fun K => initB K "BadThread", fun K => basB K "WovenError", fun K => MH.xallB K (fun n => He.ga K (errN n)) [0, 2, 8, 22, 27, 29, 32, 40] xsub, fun K => clsChk K (He.ga K "Desk")]
def ts : List (Str × List Str) := []
abbrev R : PySem.W.OpenRow := PySem.W.OpenLaw.row PySem.Challenge.rw_wovenframes_k80_desks_refuse
abbrev hk : PySem.W.Hook := hookZ 7 [cStatics] fa fn pr ck ts
def ob (s : PySem.W.SharedT) : AlZ := obsZG 7 [cStatics] fa fn pr ck ts (HandSHeadRun.getT s)
theorem ob_eq (s : PySem.W.SharedT) : ob s = hk.obs s.abs := obsZG_eq (HandSHeadRun.getT_eq s)
def names : List PySem.Str := (["_wall", "is_from", "is_line", "need_board", "is_thread", "need_thread", "all_steps", "turned", "with_cell", "strengths_of", "_law_taken", "_law_deed", "_law_made", "WovenError", "BadBoard", "BadCells", "BadRow", "BadColumn", "BadSign", "BadThread", "BadNumber", "TooHeavy", "Board", "Desk", "SIGNS", "MOST_LINES", "OTHER_WAY", "MOST_LOAD", "MOST_STRENGTH", "FIRST_STRENGTH"] : List PySem.Str)
theorem run_false (w : World) : HandSHeadRun.RunEq R (PySem.W.view R.prog [34]) hk ob 40000 names (w.withFollow "special-get-raises" false) := by
  intro os
  kernel_rfl
theorem run_true (w : World) : HandSHeadRun.RunEq R (PySem.W.view R.prog [34]) hk ob 40000 names (w.withFollow "special-get-raises" true) := by
  intro os
  kernel_rfl
theorem run (w : World) : HandSHeadRun.RunEq R (PySem.W.view R.prog [34]) hk ob 40000 names w := PySem.W.byRow2 "special-get-raises" (P := fun w => HandSHeadRun.RunEq R (PySem.W.view R.prog [34]) hk ob 40000 names w) run_false run_true w
theorem txtY {w : World} {K : PySem.W.Frag} {h : Heap} {mg : Str → Option Value} (X : K.In h) (G : h.Ns mainGlobals mg) (cz : SaysZ fa fn pr ck ts w K) (c : SaysY fa fn pr ck K) : Txt w K mg (He.ga K "Board") where
  d_need_board := let ⟨fd, F⟩ := c.d.def_ 0 (d := h_need_board) rfl; ⟨_, fd, F, He.glo_ok X G (c.d.fact 0 (f := .glo "need_board") rfl)⟩
  d_Board___len__ := let ⟨fd, F⟩ := c.d.def_ 1 (d := h_Board___len__) rfl; ⟨_, fd, F, He.meth_ok (c.d.fact 1 (f := .meth "Board" "__len__") rfl)⟩
  d_Board_rows := let ⟨p, g, fd, F, h⟩ := c.prop 0 (c := "Board") (f := "rows") (d := h_Board_rows) rfl; ⟨g, fd, F, p, h⟩
  d_all_steps := let ⟨fd, F⟩ := c.d.def_ 2 (d := h_all_steps) rfl; ⟨_, fd, F, He.glo_ok X G (c.d.fact 2 (f := .glo "all_steps") rfl)⟩
  d_strengths_of := let ⟨fd, F⟩ := c.d.def_ 3 (d := h_strengths_of) rfl; ⟨_, fd, F, He.glo_ok X G (c.d.fact 3 (f := .glo "strengths_of") rfl)⟩
  d_Board_columns := let ⟨p, g, fd, F, h⟩ := c.prop 1 (c := "Board") (f := "columns") (d := h_Board_columns) rfl; ⟨g, fd, F, p, h⟩
  d_Desk___init__ := let ⟨fd, F⟩ := c.d.def_ 4 (d := h_Desk___init__) rfl; ⟨_, fd, F, He.mkr_ok (c.d.fact 4 (f := .mkr "Desk") rfl)⟩
  d__law_made := let ⟨fd, F⟩ := c.d.def_ 5 (d := h__law_made) rfl; ⟨_, fd, F, He.glo_ok X G (c.d.fact 5 (f := .glo "_law_made") rfl)⟩
  d_is_line := let ⟨fd, F⟩ := c.d.def_ 6 (d := h_is_line) rfl; ⟨_, fd, F, He.glo_ok X G (c.d.fact 6 (f := .glo "is_line") rfl)⟩
  d_Board___init__ := let ⟨fd, F⟩ := c.d.def_ 7 (d := h_Board___init__) rfl; ⟨_, fd, F, He.mkr_ok (c.d.fact 7 (f := .mkr "Board") rfl)⟩
  d_is_from := let ⟨fd, F⟩ := c.d.def_ 8 (d := h_is_from) rfl; ⟨_, fd, F, He.glo_ok X G (c.d.fact 8 (f := .glo "is_from") rfl)⟩
  d_is_thread := let ⟨fd, F⟩ := c.d.def_ 9 (d := h_is_thread) rfl; ⟨_, fd, F, He.glo_ok X G (c.d.fact 9 (f := .glo "is_thread") rfl)⟩
  d_need_thread := let ⟨fd, F⟩ := c.d.def_ 10 (d := h_need_thread) rfl; ⟨_, fd, F, He.glo_ok X G (c.d.fact 10 (f := .glo "need_thread") rfl)⟩
  d_Desk_set_state := let ⟨fd, F⟩ := c.d.def_ 11 (d := h_Desk_set_state) rfl; ⟨_, fd, F, He.meth_ok (c.d.fact 11 (f := .meth "Desk" "set_state") rfl)⟩
  d_Desk_shift := let ⟨fd, F⟩ := c.d.def_ 12 (d := h_Desk_shift) rfl; ⟨_, fd, F, He.meth_ok (c.d.fact 12 (f := .meth "Desk" "shift") rfl)⟩
  d__law_taken := let ⟨fd, F⟩ := c.d.def_ 13 (d := h__law_taken) rfl; ⟨_, fd, F, He.glo_ok X G (c.d.fact 13 (f := .glo "_law_taken") rfl)⟩
  d_Board_cells := let ⟨p, g, fd, F, h⟩ := c.prop 2 (c := "Board") (f := "cells") (d := h_Board_cells) rfl; ⟨g, fd, F, p, h⟩
  d_Desk_own_load := let ⟨p, g, fd, F, h⟩ := c.prop 3 (c := "Desk") (f := "own_load") (d := h_Desk_own_load) rfl; ⟨g, fd, F, p, h⟩
  d_Desk_own_strengths := let ⟨p, g, fd, F, h⟩ := c.prop 4 (c := "Desk") (f := "own_strengths") (d := h_Desk_own_strengths) rfl; ⟨g, fd, F, p, h⟩
  d_Desk___len__ := let ⟨fd, F⟩ := c.d.def_ 14 (d := h_Desk___len__) rfl; ⟨_, fd, F, He.meth_ok (c.d.fact 14 (f := .meth "Desk" "__len__") rfl)⟩
  d_Desk_need_cell := let ⟨fd, F⟩ := c.d.def_ 15 (d := h_Desk_need_cell) rfl; ⟨_, fd, F, He.meth_ok (c.d.fact 15 (f := .meth "Desk" "need_cell") rfl)⟩
  d_with_cell := let ⟨fd, F⟩ := c.d.def_ 16 (d := h_with_cell) rfl; ⟨_, fd, F, He.glo_ok X G (c.d.fact 16 (f := .glo "with_cell") rfl)⟩
  d_Desk_put := let ⟨fd, F⟩ := c.d.def_ 17 (d := h_Desk_put) rfl; ⟨_, fd, F, He.meth_ok (c.d.fact 17 (f := .meth "Desk" "put") rfl)⟩
  d_Desk_strengthen := let ⟨fd, F⟩ := c.d.def_ 18 (d := h_Desk_strengthen) rfl; ⟨_, fd, F, He.meth_ok (c.d.fact 18 (f := .meth "Desk" "strengthen") rfl)⟩
  d__law_deed := let ⟨fd, F⟩ := c.d.def_ 19 (d := h__law_deed) rfl; ⟨_, fd, F, He.glo_ok X G (c.d.fact 19 (f := .glo "_law_deed") rfl)⟩
  d_Desk_own_board := let ⟨p, g, fd, F, h⟩ := c.prop 5 (c := "Desk") (f := "own_board") (d := h_Desk_own_board) rfl; ⟨g, fd, F, p, h⟩
  d_Desk_redo := let ⟨fd, F⟩ := c.d.def_ 20 (d := h_Desk_redo) rfl; ⟨_, fd, F, He.meth_ok (c.d.fact 20 (f := .meth "Desk" "redo") rfl)⟩
  d_law := let ⟨fd, F⟩ := c.d.def_ 21 (d := h_law) rfl; ⟨_, fd, F, He.glo_ok X G (c.d.fact 21 (f := .glo "law") rfl)⟩
  n_all := He.free_ok X G (c.d.fact 22 (f := .free "all") rfl)
  n_bool := He.free_ok X G (c.d.fact 23 (f := .free "bool") rfl)
  n_enumerate := He.free_ok X G (c.d.fact 24 (f := .free "enumerate") rfl)
  n_int := He.free_ok X G (c.d.fact 25 (f := .free "int") rfl)
  n_isinstance := He.free_ok X G (c.d.fact 26 (f := .free "isinstance") rfl)
  n_len := He.free_ok X G (c.d.fact 27 (f := .free "len") rfl)
  n_list := He.free_ok X G (c.d.fact 28 (f := .free "list") rfl)
  n_max := He.free_ok X G (c.d.fact 29 (f := .free "max") rfl)
  n_min := He.free_ok X G (c.d.fact 30 (f := .free "min") rfl)
  n_sorted := He.free_ok X G (c.d.fact 31 (f := .free "sorted") rfl)
  n_str := He.free_ok X G (c.d.fact 32 (f := .free "str") rfl)
  n_tuple := He.free_ok X G (c.d.fact 33 (f := .free "tuple") rfl)
  c_FIRST_STRENGTH := He.int_ok X G (c.d.fact 34 (f := .int "FIRST_STRENGTH" 1) rfl)
  c_MOST_LINES := He.int_ok X G (c.d.fact 35 (f := .int "MOST_LINES" 5) rfl)
  c_MOST_LOAD := He.int_ok X G (c.d.fact 36 (f := .int "MOST_LOAD" 20) rfl)
  c_MOST_STRENGTH := He.int_ok X G (c.d.fact 37 (f := .int "MOST_STRENGTH" 9) rfl)
  c_SIGNS := He.str_ok X G (c.d.fact 38 (f := .str "SIGNS" ".<>x") rfl)
  mg_Board := He.glo_ok X G (c.d.fact 47 (f := .glo "Board") rfl)
  cls_Board := He.cls_ok (c.d.fact 48 (f := .cls "Board") rfl)
  mg_Desk := He.glo_ok X G (c.d.fact 50 (f := .glo "Desk") rfl)
  cls_Desk := He.cls_ok (c.d.fact 51 (f := .cls "Desk") rfl)
  ok_Desk := clsOk_of (He.cls_ok (c.d.fact 51 (f := .cls "Desk") rfl)) (ckAt c.k 18 rfl)
  na_Desk_past := He.noat_ok (c.d.fact 52 (f := .noat "Desk" "past") rfl)
  na_Desk_undone := He.noat_ok (c.d.fact 53 (f := .noat "Desk" "undone") rfl)
  ok_Board := clsOk_of (He.cls_ok (c.d.fact 48 (f := .cls "Board") rfl)) (ckAt c.k 0 rfl)
  x_WovenError := errB_ok (He.glo_ok X G (c.d.fact 39 (f := .glo "WovenError") rfl)) (ckAt c.k 1 rfl)
  x_BadBoard := errB_ok (He.glo_ok X G (c.d.fact 40 (f := .glo "BadBoard") rfl)) (ckAt c.k 2 rfl)
  x_BadColumn := errB_ok (He.glo_ok X G (c.d.fact 41 (f := .glo "BadColumn") rfl)) (ckAt c.k 3 rfl)
  x_BadNumber := errB_ok (He.glo_ok X G (c.d.fact 42 (f := .glo "BadNumber") rfl)) (ckAt c.k 4 rfl)
  x_BadRow := errB_ok (He.glo_ok X G (c.d.fact 43 (f := .glo "BadRow") rfl)) (ckAt c.k 5 rfl)
  x_BadSign := errB_ok (He.glo_ok X G (c.d.fact 44 (f := .glo "BadSign") rfl)) (ckAt c.k 6 rfl)
  x_BadThread := errB_ok (He.glo_ok X G (c.d.fact 45 (f := .glo "BadThread") rfl)) (ckAt c.k 7 rfl)
  x_TooHeavy := errB_ok (He.glo_ok X G (c.d.fact 46 (f := .glo "TooHeavy") rfl)) (ckAt c.k 8 rfl)
  o_BadNumber := ckAt c.k 9 rfl
  o_TooHeavy := ckAt c.k 10 rfl
  i_BadBoard := let ⟨fd, F⟩ := c.d.def_ 22 (d := h_BadBoard___init__) rfl; ⟨_, fd, F, initB_ok (ckAt c.k 11 rfl)⟩
  i_BadColumn := let ⟨fd, F⟩ := c.d.def_ 23 (d := h_BadColumn___init__) rfl; ⟨_, fd, F, initB_ok (ckAt c.k 12 rfl)⟩
  i_BadRow := let ⟨fd, F⟩ := c.d.def_ 24 (d := h_BadRow___init__) rfl; ⟨_, fd, F, initB_ok (ckAt c.k 13 rfl)⟩
  i_BadSign := let ⟨fd, F⟩ := c.d.def_ 25 (d := h_BadSign___init__) rfl; ⟨_, fd, F, initB_ok (ckAt c.k 14 rfl)⟩
  i_BadThread := let ⟨fd, F⟩ := c.d.def_ 26 (d := h_BadThread___init__) rfl; ⟨_, fd, F, initB_ok (ckAt c.k 15 rfl)⟩
  bas := basB_ok (He.glo_ok X G (c.d.fact 39 (f := .glo "WovenError") rfl)) (ckAt c.k 16 rfl)
  xall := MH.xallB_ok (ckAt c.k 17 rfl)
  na_Board_table := He.noat_ok (c.d.fact 49 (f := .noat "Board" "table") rfl)
theorem txt {w : World} {K : PySem.W.Frag} {h : Heap} {mg : Str → Option Value} (X : K.In h) (G : h.Ns mainGlobals mg) (cz : SaysZ fa fn pr ck ts w K) : Txt w K mg (He.ga K "Board") := txtY X G cz cz.y
end LW
namespace LW
open PySem PySem.W PySem.Calls PyProof.Rows
abbrev rw0 := OpenLaw.row PySem.Challenge.rw_wovenframes_k80_desks_refuse
theorem h_e : opening rw0.prog = plainProg rw0.prog.main.scope.names := by kernel_rfl
theorem h_f : ∀ s, fenceModules? rw0.prog s = some s := fun s => by kernel_rfl
theorem h_def : defOf (view rw0.prog [34]) rw0.name = some (HandSHeadRun.topDef rw0.prog 34, []) := by kernel_rfl
theorem h_p : rw0.prog.theDef rw0.name = some ((HandSHeadRun.topDef rw0.prog 34).params, (HandSHeadRun.topDef rw0.prog 34).body, (HandSHeadRun.topDef rw0.prog 34).scope) := by kernel_rfl
theorem h_k : kwWritten? (HandSHeadRun.topDef rw0.prog 34).params.kwonlyargs (HandSHeadRun.topDef rw0.prog 34).params.kw_defaults = some [] := by kernel_rfl
theorem h_wr : (!rw0.writes || rw0.records.isEmpty) = true := by rfl
theorem h_k1 : rw0.wellSaid = true := by decide +kernel
theorem h_ok : (chainsOk (view rw0.prog [34]) && opensWell rw0.prog && (frees rw0.toRowW && rw0.within.isEmpty)) = true := by decide +kernel
theorem h_b : rw0.prog.bare := ⟨rfl, rfl, rfl, rfl, rfl, by decide +kernel⟩
theorem h_w : rw0.toRowW.promised := by w_witness2
theorem h_nm : (HandSHeadRun.topDef rw0.prog 34).name = ("law" : PySem.Str) := by kernel_rfl
theorem h_call (ht : ∀ (ns : List Int), ns.length ≤ 63 → F_law [.scr ns] = .ret (.bl true)) : WalkO (view rw0.prog [34]) names (XL (view rw0.prog [34]) []) hk.says rw0.toRowW (HandSHeadRun.topDef rw0.prog 34) [] fun f vs => PySem.call f vs := by
    refine L2.walk_ofE (l := PySem.Challenge.rw_wovenframes_k80_desks_refuse) (n := 63) (k := 11) (x := "_law_script") (CX := L2.CX0) rfl (by decide) (by kernel_rfl) ⟨rfl, by decide, by decide⟩ ?F (fun _ _ _ _ z => z)
    intro w mg fa h Y G hmg0
    obtain ⟨K, KX, c⟩ := Y
    have hmg : mg ("law" : PySem.Str) = some (.ref fa) := by
      rw [← h_nm]
      exact hmg0
    have T := LW.txt KX G c
    obtain ⟨f, fd, F0, m0⟩ := T.d_law
    have ef : f = fa := by
      have e := (show mg ("law" : PySem.Str) = some (.ref f) from m0).symm.trans hmg
      injection e with e
      injection e
    subst ef
    have b := L2.FunD.bindsA (ps := ["_law_script"]) F0 fun _ _ _ _ _ _ us hl => match us, hl with | [_], _ => rfl
    exact ⟨K, fd, _, KX, fun s v => b s [v] rfl, fun H a ns hl _ hS => ML.law_sp (u := LW.uv w K (He.ga K "Board")) ht H a ns hl hS, fun base _ _ => LW.okd_law T F0⟩
theorem h_row (ht : ∀ (ns : List Int), ns.length ≤ 63 → F_law [.scr ns] = .ret (.bl true)) : OpenRow.Holds rw0 :=
  HandSHeadRun.head_any (r := rw0) (q := view rw0.prog [34]) (H := hk) (ob := ob) (M := 40000) (loose := names) (d := HandSHeadRun.topDef rw0.prog 34) (kwd := []) ob_eq h_e h_f run h_def h_p h_k h_wr h_k1 h_ok h_b h_w (h_call ht)
end LW
namespace LW
open PySem PySem.Spec PyProof.Rows L2 ML
end LW
end
section
section
open PySem L2 ML
def rul_all := (And.intro @bnd_ok (And.intro @bnd_bad (And.intro @toS_ok (And.intro @toS_bad (And.intro @opt_some (And.intro @opt_none (And.intro @vOut_fz (And.intro @vOut_ow (And.intro @varF_ap (And.intro @cF_ap (And.intro @op2F_ap (And.intro @op2K_ap (And.intro @op2K2_ap (And.intro @op1F_ap (And.intro @op1K_ap (And.intro @nilF_ap (And.intro @consF_ap (And.intro @consK_ap (And.intro @consK2_ap (And.intro @tupF_ap (And.intro @tupK_ap (And.intro @lstM_ap (And.intro @lstK_ap (And.intro @slget_fz (And.intro @slget_ow (And.intro @frzF_ap (And.intro @frzK_ap (And.intro @fzM_ap (And.intro @fzK_ap (And.intro @cbF_ap (And.intro @cbK_ap (And.intro @asB_bl (And.intro @testF_ap (And.intro @testK_ap (And.intro @andT_ap (And.intro @andTK_ap (And.intro @orT_ap (And.intro @orTK_ap (And.intro @notT_ap (And.intro @notTK_ap (And.intro @andV_ap (And.intro @andVK_ap (And.intro @orV_ap (And.intro @orVK_ap (And.intro @notV_ap (And.intro @notVK_ap (And.intro @ifE_ap (And.intro @ifEK_ap (And.intro @chainF_ap (And.intro @chainK_ap (And.intro @chainK3_ap (And.intro @chainK2_cmp (And.intro @thn_nx (And.intro @thn_rt (And.intro @thn_bad (And.intro @seqF_ap (And.intro @ifS_ap (And.intro @ifSK_ap (And.intro @retF_ap (And.intro @retK_ap (And.intro @retN_ap (And.intro @nxF_ap (And.intro @neverF_ap (And.intro @dropF_ap (And.intro @dropK_ap (And.intro @gnF_ap (And.intro @gnilF_ap (And.intro @gconsF_ap (And.intro @gtupF_ap (And.intro @optS_some (And.intro @asgF_ap (And.intro @asgK_ap (And.intro @setM_ap (And.intro @setK_ap (And.intro @parF_ap (And.intro @parK_ap (And.intro @parK2_ap (And.intro @callO_ret (And.intro @callF_ap (And.intro @callK_ap (And.intro @fin_nx (And.intro @fin_rt (And.intro @oAt_ow (And.intro @ownAt_ap (And.intro @callMR_ret (And.intro @callMK2_some (And.intro @callMK_ap (And.intro @callM0_some (And.intro @callMF_ap (And.intro @finM_nx (And.intro @finM_rt (And.intro @oL_ow (And.intro @ownL_ap (And.intro @appK2_some (And.intro @appK_ap (And.intro @app0_some (And.intro @appF_ap (And.intro @pop2_some (And.intro @pop0_some (And.intro @popF_ap (And.intro @setI3_some (And.intro @setI2_some (And.intro @setIK2_ap (And.intro @setI1_some (And.intro @setIK_ap (And.intro @setIF_ap (And.intro @lkAt_fz (And.intro @lkAt_ow (And.intro @lookAt_ap (And.intro @ixP2_ap (And.intro @ixPK_ap (And.intro @ixP0_some (And.intro @ixPF_ap (And.intro @scOut_some (And.intro @isSc_bl (And.intro @isSc_int (And.intro @opPLK_ap (And.intro @opPL0_some (And.intro @opPLF_ap (And.intro @opPRK_ap (And.intro @opPRF_ap (And.intro @nilMs_ap (And.intro @consMs_ap (And.intro @consMK_ap (And.intro @consMK2_ap (And.intro @par3F_ap (And.intro @par3K_ap (And.intro @dinP2_ap (And.intro @dinP2_t (And.intro @dinPK_ap (And.intro @dinPF_ap (And.intro @toKey_tup (And.intro @toKeys_tup (And.intro @toKey_int (And.intro @dnewM_ap (And.intro @done1M_ap (And.intro @done1K_ap (And.intro @done1K2_ap (And.intro @dputO_some (And.intro @dputK2_ap (And.intro @dput1_some (And.intro @dputK_ap (And.intro @dputF_ap (And.intro @itemsD_lst (And.intro @itemsD_tup (And.intro @itemsD_str (And.intro @itF_ap (And.intro @itK_ap (And.intro @enF_ap (And.intro @enK_lst (And.intro @enK_tup (And.intro @enK_str (And.intro @rng1F_ap (And.intro @rng2F_ap (And.intro @rng2K_ap (And.intro @starK2_ap (And.intro @starF_ap (And.intro @starK_lst (And.intro @starK_tup (And.intro @starK_str (And.intro @forS_ap (And.intro @forK_ap (And.intro @lcM_ap (And.intro @lcK_ap (And.intro @mkL_ap (And.intro @tYesF_ap (And.intro @wipeE_nil (And.intro @wipeE_cons (And.intro @addD_int (And.intro @subD_int (And.intro @negD_int (And.intro @cmpD_int (And.intro @intD_int (And.intro @intD_bl (And.intro @tupleD_lst (And.intro @tupleD_tup (And.intro @listD_tup (And.intro @eqD_int (And.intro @neD_int (And.intro @lenA_lst (And.intro @lenA_tup (And.intro @lenA_scr (And.intro @lenD_lst (And.intro @isiF_ap (And.intro @isoF_ap (And.intro @fldF_ap (And.intro @fldK_one (And.intro @joinF_ap (And.intro @joinK_ap (And.intro @joinK2_lst (And.intro @makeR_ret (And.intro @makeM_ap (And.intro @makeK_ap (And.intro @noPF_ap (And.intro @partF_ap (And.intro @partK_ap (And.intro @slF_ap (And.intro @slK_ap (And.intro @slK2_ap (And.intro @slK3_ap (And.intro @bools_map (And.intro @allD_rep (And.intro @sortKF_ap (And.intro @sortKK_ap (And.intro @isi2F_ap (And.intro @propF_ap (And.intro @propK_ap (And.intro @min2D_ap (And.intro @max2D_ap (And.intro @absD_ap (And.intro @rg1F_ap (And.intro @rg1K_ap (And.intro @rg2F_ap (And.intro @rg2K_ap (And.intro @rg2K2_ap (And.intro @tupRgF_ap (And.intro @lstRgM_ap (And.intro @lc2M_ap (And.intro @lc2K_ap (And.intro @dnewTM_ap (And.intro @done1TM_ap (And.intro @done1TK_ap (And.intro @done1TK2_ap (And.intro @listP0_ap (And.intro @listPF_ap (And.intro @dgetF_ap (And.intro @dgetP2_ap (And.intro @dgetPK_ap (And.intro @dgetP0_ap (And.intro @dgetPF_ap (And.intro @starRgF_ap (And.intro @starRgK2_ap (And.intro @remO_ap (And.intro @remK_ap (And.intro @rem0_ap (And.intro @remF_ap (And.intro @listM_ap (And.intro @listK_ap (And.intro @ownL1_ap (And.intro @extK2_some (And.intro @extK_lst (And.intro @ext0_some (And.intro @extF_ap (And.intro @forO0_some (And.intro @bnd_ex (And.intro @toS_ex (And.intro @thn_ex (And.intro @finX_nx (And.intro @finX_rt (And.intro @finX_ex (And.intro @callO_exn (And.intro @raise0F_ap (And.intro @raise1F_ap (And.intro @raise1K_ap (And.intro @tryF_ap (And.intro @tryK_ex (And.intro @tryK_nx (And.intro @tryK_rt (And.intro @claS_cons (And.intro @onE_some (And.intro @onE_none (And.intro @offE_some (And.intro @offE_none (And.intro @leaveS_rt (And.intro @leaveS_nx (And.intro @noXn_nil (And.intro @noXn_fz (And.intro @noXn_ow (And.intro @noXn_no (And.intro @xnO_xn (And.intro @xfld0_some (And.intro @xfldF_ap (And.intro @revD_tup (And.intro @addM_ap (And.intro @addMK_ap (And.intro @addMK2_ap (And.intro @mulM_ap (And.intro @mulMK_ap (And.intro @mulMK2_ap (And.intro @asgH_ap (And.intro @asgHK_ap (And.intro @thnH_nx (And.intro @gtupH_ap (And.intro @gconsH_ap (And.intro @gnilH_ap (And.intro @gnH_ap (And.intro @dsubH_ap (And.intro @subH_ap (And.intro @augK_ap (And.intro @aug0_ap (And.intro @augF_ap (And.intro @augI3_ap (And.intro @augIK2_ap (And.intro @augI2_ap (And.intro @augI1_ap (And.intro @augIK_ap (And.intro @augI0_ap (And.intro @augI_ap (And.intro @zipF_ap (And.intro @zipK_ap (And.intro @kdictD_str (And.intro @dcM_ap (And.intro @dcK_ap (And.intro @mkD_ap (And.intro @anilF_ap (And.intro @aconsF_ap (And.intro @aconsK_ap (And.intro @aconsK2_ap (And.intro @alend0_ap (And.intro @alendK_ap (And.intro @alendF_ap (And.intro @argsD_nil (And.intro @argsD_d (And.intro @argsD_s (And.intro @callLK2_ap (And.intro @callLK_ap (And.intro @callLF_ap (And.intro @callLO_ap (And.intro @map_some' (And.intro @sumTD_lst (And.intro @maxTD_lst (And.intro @minTD_lst (And.intro @cntF_ap (And.intro @cntK_ap (And.intro @cntK2_ap (And.intro @dget2EF_ap (And.intro @dget2K_dk (And.intro @dget2K2_ap @dget2K3_ap))))))))))))))))))))))))))))))))))))))))))))))))))))))))))))))))))))))))))))))))))))))))))))))))))))))))))))))))))))))))))))))))))))))))))))))))))))))))))))))))))))))))))))))))))))))))))))))))))))))))))))))))))))))))))))))))))))))))))))))))))))))))))))))))))))))))))))))))))))))))))))))))))))))))))))))))))))))))))))))))))))))))
end
namespace LW
open PySem (Str)
open L2 ML
abbrev Tb := List (List Nat)
def wd (t : Tb) : Nat := (t.headD []).length
def thr (t : Tb) : Nat := t.length + wd t
structure BOk (t : Tb) : Prop where
  h1 : 1 ≤ t.length
  h5 : t.length ≤ 5
  w1 : 1 ≤ wd t
  w5 : wd t ≤ 5
  sq : ∀ r ∈ t, r.length = wd t
  sg : ∀ r ∈ t, ∀ c ∈ r, c = 46 ∨ c = 60 ∨ c = 62 ∨ c = 120
def RowOk (d : D) : Prop := ∃ (ns : List Int) (a b c : Int), d = .lst [.scr ns, .int a, .int b, .int c] ∧ 0 ≤ a
theorem F_taken_ok {d : D} (h : RowOk d) {m : Int} (h0 : 0 < m) (h1 : m < 1073741824) : ∃ v d', F__law_taken d [.int m] = .ret (.int v) d' ∧ 0 ≤ v ∧ v < m ∧ RowOk d' := by
  obtain ⟨ns, a, b, c, rfl, ha⟩ := h
  have a0 : ∀ (x y z w : D), atI [x, y, z, w] 0 = some x := fun _ _ _ _ => rfl
  have a1 : ∀ (x y z w : D), atI [x, y, z, w] 1 = some y := fun _ _ _ _ => rfl
  have a2 : ∀ (x y z w : D), atI [x, y, z, w] 2 = some z := fun _ _ _ _ => rfl
  have a3 : ∀ (x y z w : D), atI [x, y, z, w] 3 = some w := fun _ _ _ _ => rfl
  have i1 : ixN 4 1 = some 1 := rfl
  have i2 : ixN 4 2 = some 2 := rfl
  have i3 : ixN 4 3 = some 3 := rfl
  have hmod : ∀ x : Int, 0 ≤ x % m ∧ x % m < m := fun x => ⟨Int.emod_nonneg _ (by omega), Int.emod_lt_of_pos _ h0⟩
  have emul : ∀ x : Int, mulD (.int x) (.int 48271) = some (.int (x * 48271)) := fun x => by simp [mulD]
  by_cases hc : 0 < c
  · refine ⟨c % m, .lst [.scr ns, .int a, .int b, .int (c / m)], ?_, (hmod c).1, (hmod c).2, ns, a, b, c / m, rfl, ha⟩
    simp [F__law_taken, runM, B__law_taken, envM, a0, a1, a2, a3, i1, i2, i3, hc, modD_int h0, fdivD_int h0 h1]
  · by_cases hn : (ns.length : Int) < a + 1
    · refine ⟨((b * 48271 + 11) % 2147483647) / 7 % m, .lst [.scr ns, .int (a + 1), .int ((b * 48271 + 11) % 2147483647), .int c], ?_, (hmod _).1, (hmod _).2, ns, a + 1, _, c, rfl, by omega⟩
      simp [F__law_taken, runM, B__law_taken, envM, a0, a1, a2, a3, i1, i2, i3, hc, hn, modD_int h0, emul, modD_int (j := 2147483647) (by omega), fdivD_int (j := 7) (by omega) (by omega)]
    · have ea : a + 1 - 1 = a := by omega
      have hx : a.toNat < ns.length := by omega
      have ex : ixD (.scr ns) (.int a) = some (.int ns[a.toNat]) := by
        simp [ixD, atI_of ns ha, hx]
      have ep : powD (.int 10) (.int 18) = some (.int 1000000000000000000) := rfl
      by_cases hb : (1000000000000000000 : Int) ≤ ns[a.toNat]
      · refine ⟨ns[a.toNat] % m, .lst [.scr ns, .int (a + 1), .int ((b * 48271 + ns[a.toNat] + 11) % 2147483647), .int (ns[a.toNat] / m)], ?_, (hmod _).1, (hmod _).2, ns, a + 1, _, _, rfl, by omega⟩
        simp [F__law_taken, runM, B__law_taken, envM, a0, a1, a2, a3, i1, i2, i3, hc, hn, modD_int h0, emul, ea, ex, ep, hb, modD_int (j := 2147483647) (by omega), fdivD_int h0 h1]
      · refine ⟨ns[a.toNat] % m, .lst [.scr ns, .int (a + 1), .int ((b * 48271 + ns[a.toNat] + 11) % 2147483647), .int c], ?_, (hmod _).1, (hmod _).2, ns, a + 1, _, _, rfl, by omega⟩
        simp [F__law_taken, runM, B__law_taken, envM, a0, a1, a2, a3, i1, i2, i3, hc, hn, modD_int h0, emul, ea, ex, ep, hb, modD_int (j := 2147483647) (by omega), fdivD_int h0 h1]
def nD (n : Nat) : D := .int (n : Int)
def prD (p : Nat × Nat) : D := .tup [nD p.1, nD p.2]
def cellSt (m i j c : Nat) : List (Nat × Nat) := (if c ∈ [62, 120] then [(i, m + j)] else []) ++ (if c ∈ [60, 120] then [(m + j, i)] else [])
def rowSt (m i : Nat) : Nat → List Nat → List (Nat × Nat)
  | _, [] => []
  | j, c :: cs => cellSt m i j c ++ rowSt m i (j + 1) cs
def rawSt (m : Nat) : Nat → Tb → List (Nat × Nat)
  | _, [] => []
  | i, r :: rs => rowSt m i 0 r ++ rawSt m (i + 1) rs
def enZ {α : Type} (g : α → D) (n : Nat) (xs : List α) : List D := (xs.zipIdx n).map fun p => .tup [nD p.2, g p.1]
@[simp] theorem enZ_nil {α : Type} (g : α → D) (n : Nat) : enZ g n [] = [] := rfl
@[simp] theorem enZ_cons {α : Type} (g : α → D) (n : Nat) (x : α) (xs : List α) : enZ g n (x :: xs) = .tup [nD n, g x] :: enZ g (n + 1) xs := by simp [enZ]
def leP (a b : Nat × Nat) : Bool := PySem.W.dataLe false toPy (prD a) (prD b)
def stL (t : Tb) : List (Nat × Nat) := (rawSt t.length 0 t).mergeSort leP
theorem mem_rowSt {m i : Nat} {p : Nat × Nat} : ∀ {r : List Nat} {j : Nat}, p ∈ rowSt m i j r ↔ ∃ k c, r[k]? = some c ∧ p ∈ cellSt m i (j + k) c
  | [], j => by simp [rowSt]
  | c :: cs, j => by
    rw [rowSt, List.mem_append, mem_rowSt]
    constructor
    · rintro (h | ⟨k, c', h1, h2⟩)
      · exact ⟨0, c, rfl, h⟩
      · exact ⟨k + 1, c', by simpa using h1, by rw [show j + (k + 1) = j + 1 + k by omega]; exact h2⟩
    · rintro ⟨k, c', h1, h2⟩
      cases k with
      | zero => simp at h1; subst h1; exact .inl h2
      | succ k => exact .inr ⟨k, c', by simpa using h1, by rw [show j + 1 + k = j + (k + 1) by omega]; exact h2⟩
theorem mem_rawSt {m : Nat} {p : Nat × Nat} : ∀ {t : Tb} {i : Nat}, p ∈ rawSt m i t ↔ ∃ k r, t[k]? = some r ∧ p ∈ rowSt m (i + k) 0 r
  | [], i => by simp [rawSt]
  | r :: t, i => by
    rw [rawSt, List.mem_append, mem_rawSt]
    constructor
    · rintro (h | ⟨k, c', h1, h2⟩)
      · exact ⟨0, r, rfl, h⟩
      · exact ⟨k + 1, c', by simpa using h1, by rw [show i + (k + 1) = i + 1 + k by omega]; exact h2⟩
    · rintro ⟨k, c', h1, h2⟩
      cases k with
      | zero => simp at h1; subst h1; exact .inl h2
      | succ k => exact .inr ⟨k, c', by simpa using h1, by rw [show i + 1 + k = i + (k + 1) by omega]; exact h2⟩
def Stp (t : Tb) (a b : Nat) : Prop := ∃ i j r c, t[i]? = some r ∧ r[j]? = some c ∧ (((c = 62 ∨ c = 120) ∧ a = i ∧ b = t.length + j) ∨ ((c = 60 ∨ c = 120) ∧ a = t.length + j ∧ b = i))
theorem mem_stL {t : Tb} {a b : Nat} : (a, b) ∈ stL t ↔ Stp t a b := by
  unfold stL
  rw [List.mem_mergeSort, mem_rawSt]
  constructor
  · rintro ⟨i, r, h1, h2⟩
    obtain ⟨j, c, h3, h4⟩ := mem_rowSt.1 h2
    refine ⟨i, j, r, c, h1, h3, ?_⟩
    simp only [Nat.zero_add, cellSt, List.mem_append] at h4
    rcases h4 with h4 | h4
    · split at h4
      · rename_i hc
        simp at hc h4
        exact .inl ⟨hc, h4.1, h4.2⟩
      · simp at h4
    · split at h4
      · rename_i hc
        simp at hc h4
        exact .inr ⟨hc, h4.1, h4.2⟩
      · simp at h4
  · rintro ⟨i, j, r, c, h1, h2, h3⟩
    refine ⟨i, r, h1, mem_rowSt.2 ⟨j, c, h2, ?_⟩⟩
    simp only [Nat.zero_add, cellSt, List.mem_append]
    rcases h3 with ⟨hc, ha, hb⟩ | ⟨hc, ha, hb⟩
    · left; rw [if_pos (by simpa using hc)]; simp [ha, hb]
    · right; rw [if_pos (by simpa using hc)]; simp [ha, hb]
theorem Stp.lt {t : Tb} (h : BOk t) {a b : Nat} (s : Stp t a b) : a < thr t ∧ b < thr t := by
  obtain ⟨i, j, r, c, h1, h2, h3⟩ := s
  have hi := (List.getElem?_eq_some_iff.1 h1).1
  have hj := (List.getElem?_eq_some_iff.1 h2).1
  have hr := h.sq r (List.mem_of_getElem? h1)
  unfold thr
  rcases h3 with ⟨_, rfl, rfl⟩ | ⟨_, rfl, rfl⟩ <;> omega
inductive Rch (t : Tb) (s : Nat) : Nat → Prop where
  | refl : Rch t s s
  | step {a b : Nat} : Rch t s a → Stp t a b → Rch t s b
theorem Rch.trans {t : Tb} {a b c : Nat} (h : Rch t a b) (k : Rch t b c) : Rch t a c := by
  induction k with
  | refl => exact h
  | step _ s ih => exact .step ih s
theorem Rch.lt {t : Tb} (h : BOk t) {a b : Nat} (ha : a < thr t) (k : Rch t a b) : b < thr t := by
  induction k with
  | refl => exact ha
  | step _ s _ => exact (s.lt h).2
def iN (n : Nat) : Int := n
structure Dfs (t : Tb) (s : Nat) (K W : List Nat) : Prop where
  nd : K.Nodup
  lt : ∀ k ∈ K, k < thr t
  src : s ∈ K
  wk : ∀ w ∈ W, w ∈ K
  rc : ∀ k ∈ K, Rch t s k
  cl : ∀ k ∈ K, k ∉ W → ∀ b, Stp t k b → b ∈ K
theorem Dfs.len {t : Tb} {s : Nat} {K W : List Nat} (d : Dfs t s K W) : K.length ≤ thr t := by
  have := d.nd.length_le_of_subset (l₂ := List.range (thr t)) (fun k hk => List.mem_range.2 (d.lt k hk))
  simpa using this
noncomputable def rchL (t : Tb) (s : Nat) : List Nat := by
  classical
  exact (List.range (thr t)).filter fun b => decide (Rch t s b)
def lotD (L : List Nat) : D := .tup (L.map nD)
structure LOk (t : Tb) (L : List Nat) : Prop where
  lt : ∀ x ∈ L, x < thr t
  so : L.Pairwise (· < ·)
theorem LOk.len {t : Tb} {L : List Nat} (h : LOk t L) : L.length ≤ thr t := by
  have nd : L.Nodup := h.so.imp (fun h => by omega)
  have := nd.length_le_of_subset (l₂ := List.range (thr t)) (fun k hk => List.mem_range.2 (h.lt k hk))
  simpa using this
theorem BOk.thr10 {t : Tb} (h : BOk t) : thr t ≤ 10 := by
  have h5 := h.h5
  have w5 := h.w5
  unfold thr; omega
def Closed (t : Tb) (L : List Nat) : Prop := ∀ a b, Stp t a b → b ∈ L → a ∈ L
def isSg (c : Nat) : Prop := c = 46 ∨ c = 60 ∨ c = 62 ∨ c = 120
theorem ix_lst {xs : List D} {k : Nat} (h : k < xs.length) : ixD (.lst xs) (nD k) = some xs[k] := by
  show atI xs (k : Int) = _
  rw [ML.atI_nat]; simp [h]
theorem F_taken_nat {d : D} (h : RowOk d) {m : Nat} (h0 : 0 < m) (h1 : m < 1000000) : ∃ (v : Nat) (d' : D), F__law_taken d [nD m] = .ret (nD v) d' ∧ v < m ∧ RowOk d' := by
  obtain ⟨v, d', e, v0, v1, r⟩ := F_taken_ok h (m := (m : Int)) (by omega) (by omega)
  refine ⟨v.toNat, d', ?_, by omega, r⟩
  have : (v.toNat : Int) = v := by omega
  simp only [nD, this]; exact e
theorem F_taken_lit {d : D} (h : RowOk d) (m : Nat) (h0 : 0 < m) (h1 : m < 1000000) {i : Int} (hi : i = m) : ∃ (v : Nat) (d' : D), F__law_taken d [.int i] = .ret (nD v) d' ∧ v < m ∧ RowOk d' := by
  subst hi; exact F_taken_nat h h0 h1
def lstN (r : List Nat) : Nat := r.getD (r.length - 1) 0
@[simp] theorem lstN_app (r : List Nat) (n : Nat) : lstN (r ++ [n]) = n := by simp [lstN]
def exR (row : List Nat) : List (Nat × Nat) → List Nat × List (List Nat) → List Nat × List (List Nat)
  | [], s => s
  | p :: ps, s => exR row ps (if p.1 = lstN row ∧ p.2 ∉ s.1 then (s.1 ++ [p.2], s.2 ++ [row ++ [p.2]]) else s)
def exL (told : List (Nat × Nat)) : List (List Nat) → List Nat × List (List Nat) → List Nat × List (List Nat)
  | [], s => s
  | r :: L, s => exL told L (exR r told s)
theorem exR_spec (row : List Nat) : ∀ (ps : List (Nat × Nat)) (K : List Nat) (L : List (List Nat)), ∃ N : List Nat, exR row ps (K, L) = (K ++ N, L ++ N.map fun n => row ++ [n]) ∧ (K.Nodup → (K ++ N).Nodup) ∧
    (∀ n ∈ N, (lstN row, n) ∈ ps) ∧ (∀ n, (lstN row, n) ∈ ps → n ∈ K ++ N) ∧ N.Sublist ((ps.filter fun p => decide (p.1 = lstN row)).map (·.2))
  | [], K, L => ⟨[], by simp [exR], by simp, by simp, by simp, by simp⟩
  | p :: ps, K, L => by
    by_cases hc : p.1 = lstN row ∧ p.2 ∉ K
    · obtain ⟨N, e, hn, hs, hm, hsub⟩ := exR_spec row ps (K ++ [p.2]) (L ++ [row ++ [p.2]])
      refine ⟨p.2 :: N, by simp [exR, hc, e], ?_, ?_, ?_, ?_⟩
      · intro hk
        have := hn (by simp [List.nodup_append, hk]; intro a ha e; subst e; exact hc.2 ha)
        simpa using this
      · intro n hn'
        rcases List.mem_cons.1 hn' with rfl | h'
        · have : p = (lstN row, p.2) := by rw [← hc.1]
          rw [← this]; simp
        · exact List.mem_cons_of_mem _ (hs n h')
      · intro n hn'
        rcases List.mem_cons.1 hn' with e' | h'
        · rw [← e']; simp
        · have := hm n h'
          simpa using this
      · rw [List.filter_cons, if_pos (by simp [hc.1]), List.map_cons]
        exact hsub.cons_cons _
    · obtain ⟨N, e, hn, hs, hm, hsub⟩ := exR_spec row ps K L
      refine ⟨N, by simp [exR, hc, e], hn, fun n x => List.mem_cons_of_mem _ (hs n x), ?_, ?_⟩
      · intro n hn'
        rcases List.mem_cons.1 hn' with e' | h'
        · have : p.2 ∈ K := by
            apply Classical.byContradiction
            intro hx
            exact hc ⟨by rw [← e'], hx⟩
          rw [← e'] at this
          simp only [List.mem_append]; exact .inl this
        · exact hm n h'
      · rw [List.filter_cons]
        split
        · exact hsub.trans (List.Sublist.map _ (List.sublist_cons_self _ _))
        · exact hsub
def rowLe (a b : List Nat) : Prop := PySem.W.dataLe false toPy (lotD a) (lotD b) = true
theorem toPyL_nD (a : List Nat) : toPyL (a.map nD) = (a.map iN).map PySem.PyData.int := by
  induction a with
  | nil => rfl
  | cons x a ih => simp [toPyL, ih, toPy, nD, iN]
theorem rowLe_iff (a b : List Nat) : rowLe a b ↔ a.map iN ≤ b.map iN := by
  have h := congrFun (congrFun (PySem.W.dataLe_rows (fun x : List Nat => x.map iN)) a) b
  have e : PySem.W.dataLe false toPy (lotD a) (lotD b) = PySem.W.dataLe false (fun b : List Nat => .list ((b.map iN).map .int)) a b := by
    have ea : toPy (lotD a) = .tuple ((a.map iN).map .int) := by simp [lotD, toPy, toPyL_nD]
    have eb : toPy (lotD b) = .tuple ((b.map iN).map .int) := by simp [lotD, toPy, toPyL_nD]
    rw [PySem.W.dataLe_eq, PySem.W.dataLe_eq]
    simp only [cond_false]
    rw [ea, eb, PySem.W.dataLt_tuple, PySem.W.dataLt_list]
  unfold rowLe
  rw [e, h]
  simp
theorem row_last (r : List Nat) {x y : Nat} (h : x ≤ y) : rowLe (r ++ [x]) (r ++ [y]) := by
  rw [rowLe_iff]
  induction r with
  | nil =>
    show [iN x] ≤ [iN y]
    rw [List.cons_le_cons_iff]
    rcases Nat.lt_or_eq_of_le h with h | h
    · exact .inl (by simp [iN]; omega)
    · exact .inr ⟨by rw [h], List.le_refl _⟩
  | cons z r ih =>
    show iN z :: (r ++ [x]).map iN ≤ iN z :: (r ++ [y]).map iN
    rw [List.cons_le_cons_iff]
    exact .inr ⟨rfl, ih⟩
theorem row_app {a b : List Nat} (hl : a.length = b.length) (h : rowLe a b) (hn : a ≠ b) (x y : Nat) : rowLe (a ++ [x]) (b ++ [y]) := by
  rw [rowLe_iff] at h ⊢
  induction a generalizing b with
  | nil => cases b with
    | nil => exact absurd rfl hn
    | cons _ _ => simp at hl
  | cons z a ih => cases b with
    | nil => simp at hl
    | cons w b =>
      have h' : iN z :: a.map iN ≤ iN w :: b.map iN := h
      show iN z :: (a ++ [x]).map iN ≤ iN w :: (b ++ [y]).map iN
      rw [List.cons_le_cons_iff] at h' ⊢
      rcases h' with h' | ⟨h1, h2⟩
      · exact .inl h'
      · have ezw : z = w := by simp [iN] at h1; omega
        exact .inr ⟨h1, ih (by simpa using hl) h2 (fun e => hn (by rw [ezw, e]))⟩
theorem stL_sorted (t : Tb) : (stL t).Pairwise fun p q => p.1 < q.1 ∨ (p.1 = q.1 ∧ p.2 ≤ q.2) := by
  have hle : ∀ p q : Nat × Nat, leP p q = decide (p.1 < q.1 ∨ (p.1 = q.1 ∧ p.2 ≤ q.2)) := fun p q => by
    have h := congrFun (congrFun (PySem.W.dataLe_ii (fun p : Nat × Nat => (p.1 : Int)) (fun p : Nat × Nat => (p.2 : Int))) p) q
    have h2 : leP p q = decide ((p.1 : Int) < (q.1 : Int) ∨ ((p.1 : Int) = (q.1 : Int) ∧ (p.2 : Int) ≤ (q.2 : Int))) := h
    rw [h2]
    congr 1
    simp; omega
  have := List.pairwise_mergeSort (le := leP) (fun a b c h1 h2 => by rw [hle] at *; simp at *; omega) (fun a b => by rw [hle, hle]; simp; omega) (rawSt t.length 0 t)
  exact this.imp (fun {p q} h => by rw [hle] at h; simpa using h)
theorem sec_sorted (t : Tb) (h : Nat) : (((stL t).filter fun p => decide (p.1 = h)).map (·.2)).Pairwise (· ≤ ·) := by
  rw [List.pairwise_map]
  have := ((stL_sorted t).filter fun p => decide (p.1 = h))
  refine this.imp_of_mem (fun {p q} hp hq hh => ?_)
  have h1 := (List.mem_filter.1 hp).2
  have h2 := (List.mem_filter.1 hq).2
  simp at h1 h2
  omega
structure Bfs (t : Tb) (s o ℓ : Nat) (K : List Nat) (L : List (List Nat)) : Prop where
  nd : K.Nodup
  lt : ∀ k ∈ K, k < thr t
  src : s ∈ K
  rk : ∀ r ∈ L, lstN r ∈ K
  rc : ∀ k ∈ K, Rch t s k
  cl : ∀ k ∈ K, k ∉ L.map lstN → ∀ b, Stp t k b → b ∈ K
  no : ∀ k ∈ K, k ∉ L.map lstN → k ≠ o
  nl : (L.map lstN).Nodup
  so : L.Pairwise rowLe
  ln : ∀ r ∈ L, r.length = ℓ
  l1 : 1 ≤ ℓ
  lk : ℓ ≤ K.length
structure Mid (t : Tb) (s o ℓ : Nat) (L rest : List (List Nat)) (K : List Nat) (M : List (List Nat)) (k0 : Nat) : Prop where
  nd : K.Nodup
  lt : ∀ k ∈ K, k < thr t
  src : s ∈ K
  rk : ∀ r ∈ rest, lstN r ∈ K
  mm : ∀ r ∈ M, lstN r ∈ K
  rc : ∀ k ∈ K, Rch t s k
  cl : ∀ k ∈ K, k ∉ rest.map lstN → k ∉ M.map lstN → ∀ b, Stp t k b → b ∈ K
  no : ∀ k ∈ K, k ∉ rest.map lstN → k ∉ M.map lstN → k ≠ o
  nl : (M.map lstN).Nodup
  so : M.Pairwise rowLe
  mr : ∀ m ∈ M, ∃ a x, m = a ++ [x] ∧ a ∈ L ∧ ∀ r ∈ rest, rowLe a r ∧ a ≠ r
  ln : ∀ m ∈ M, m.length = ℓ + 1
  kl : k0 + M.length = K.length
theorem Dfs_len' {t : Tb} {K : List Nat} (nd : K.Nodup) (lt : ∀ k ∈ K, k < thr t) : K.length ≤ thr t := by
  have := nd.length_le_of_subset (l₂ := List.range (thr t)) (fun k hk => List.mem_range.2 (lt k hk))
  simpa using this
theorem Mid.step {t : Tb} (ok : BOk t) {s o ℓ k0 : Nat} {L rest : List (List Nat)} {r : List Nat} {K : List Nat} {M : List (List Nat)} (h : Mid t s o ℓ L (r :: rest) K M k0) (hr : r ∈ L) (hl : r.length = ℓ) (hno : lstN r ≠ o) (hlr : ∀ q ∈ rest, rowLe r q ∧ r ≠ q) (hll : ∀ q ∈ rest, q.length = ℓ) (hL : ∀ q ∈ L, q.length = ℓ)
    (hd : lstN r ∉ rest.map lstN) : Mid t s o ℓ L rest (exR r (stL t) (K, M)).1 (exR r (stL t) (K, M)).2 k0 := by
  obtain ⟨N, e, hn, hs, hm, hsub⟩ := exR_spec r (stL t) K M
  rw [e]
  have nd' := hn h.nd
  have hrk : lstN r ∈ K := h.rk r (by simp)
  have eM : (M ++ N.map fun n => r ++ [n]).map lstN = M.map lstN ++ N := by
    rw [List.map_append, List.map_map]
    congr 1
    conv => rhs; rw [← List.map_id N]
    refine List.map_congr_left fun n _ => by simp
  refine ⟨nd', ?_, by simp [h.src], ?_, ?_, ?_, ?_, ?_, ?_, ?_, ?_, ?_, ?_⟩
  · intro k hk
    rcases List.mem_append.1 hk with h1 | h1
    · exact h.lt k h1
    · exact ((mem_stL.1 (hs k h1)).lt ok).2
  · intro q hq
    exact List.mem_append.2 (.inl (h.rk q (by simp [hq])))
  · intro m hm'
    rcases List.mem_append.1 hm' with h1 | h1
    · exact List.mem_append.2 (.inl (h.mm m h1))
    · obtain ⟨n, hn', rfl⟩ := List.mem_map.1 h1
      simp [hn']
  · intro k hk
    rcases List.mem_append.1 hk with h1 | h1
    · exact h.rc k h1
    · exact .step (h.rc _ hrk) (mem_stL.1 (hs k h1))
  · intro k hk hkr hkM b sb
    simp only at hkM
    rw [eM] at hkM
    have hkN : k ∉ N := fun x => hkM (List.mem_append.2 (.inr x))
    have hkM' : k ∉ M.map lstN := fun x => hkM (List.mem_append.2 (.inl x))
    have hkK : k ∈ K := (List.mem_append.1 hk).resolve_right hkN
    by_cases e' : k = lstN r
    · subst e'; exact hm b (mem_stL.2 sb)
    · exact List.mem_append.2 (.inl (h.cl k hkK (by simp [e']; simpa using hkr) hkM' b sb))
  · intro k hk hkr hkM
    simp only at hkM
    rw [eM] at hkM
    have hkN : k ∉ N := fun x => hkM (List.mem_append.2 (.inr x))
    have hkM' : k ∉ M.map lstN := fun x => hkM (List.mem_append.2 (.inl x))
    have hkK : k ∈ K := (List.mem_append.1 hk).resolve_right hkN
    by_cases e' : k = lstN r
    · subst e'; exact hno
    · exact h.no k hkK (by simp [e']; simpa using hkr) hkM'
  · simp only
    rw [eM, List.nodup_append]
    have hN := (List.nodup_append.1 nd').2
    refine ⟨h.nl, hN.1, fun a ha b hb => ?_⟩
    obtain ⟨m, hm', rfl⟩ := List.mem_map.1 ha
    exact hN.2 _ (h.mm m hm') b hb
  · rw [List.pairwise_append]
    refine ⟨h.so, ?_, ?_⟩
    · rw [List.pairwise_map]
      exact ((sec_sorted t (lstN r)).sublist hsub).imp fun hxy => row_last r hxy
    · intro m hm' q hq
      obtain ⟨n, _, rfl⟩ := List.mem_map.1 hq
      obtain ⟨a, x, rfl, ha, hh⟩ := h.mr m hm'
      have := hh r (by simp)
      exact row_app (by rw [hL a ha, hl]) this.1 this.2 x n
  · intro m hm'
    rcases List.mem_append.1 hm' with h1 | h1
    · obtain ⟨a, x, rfl, ha, hh⟩ := h.mr m h1
      exact ⟨a, x, rfl, ha, fun q hq => hh q (by simp [hq])⟩
    · obtain ⟨n, _, rfl⟩ := List.mem_map.1 h1
      exact ⟨r, n, rfl, hr, hlr⟩
  · intro m hm'
    rcases List.mem_append.1 hm' with h1 | h1
    · exact h.ln m h1
    · obtain ⟨n, _, rfl⟩ := List.mem_map.1 h1
      simp [hl]
  · have := h.kl
    simp; omega
theorem Mid.all {t : Tb} (ok : BOk t) {s o ℓ k0 : Nat} {L : List (List Nat)} (hL : ∀ q ∈ L, q.length = ℓ) : ∀ {rest : List (List Nat)} {K : List Nat} {M : List (List Nat)}, Mid t s o ℓ L rest K M k0 → rest.Pairwise rowLe → (rest.map lstN).Nodup → (∀ r ∈ rest, r ∈ L) → (∀ r ∈ rest, lstN r ≠ o) →
    Mid t s o ℓ L [] (exL (stL t) rest (K, M)).1 (exL (stL t) rest (K, M)).2 k0
  | [], K, M, h, _, _, _, _ => h
  | r :: rest, K, M, h, hp, hd, hm, hno => by
    rw [List.pairwise_cons] at hp
    rw [List.map_cons, List.nodup_cons] at hd
    have h1 := h.step ok (hm r (by simp)) (hL r (hm r (by simp))) (hno r (by simp)) (fun q hq => ⟨hp.1 q hq, fun e => hd.1 (by rw [e]; exact List.mem_map_of_mem hq)⟩) (fun q hq => hL q (hm q (by simp [hq]))) hL hd.1
    have h2 := Mid.all ok hL h1 hp.2 hd.2 (fun q hq => hm q (by simp [hq])) (fun q hq => hno q (by simp [hq]))
    exact h2
theorem Bfs.len {t : Tb} {s o ℓ : Nat} {K : List Nat} {L : List (List Nat)} (h : Bfs t s o ℓ K L) : K.length ≤ thr t := Dfs_len' h.nd h.lt
def lotLt (a b : List Nat) : Bool := decide (a.map iN < b.map iN)
def szLt (a b : List Nat) : Bool := decide (a.length < b.length) || (decide (a.length = b.length) && lotLt a b)
def allL : Nat → List (List Nat)
  | 0 => [[]]
  | n + 1 => allL n ++ (allL n).map (· ++ [n])
theorem allL_len : ∀ n, (allL n).length = 2 ^ n
  | 0 => rfl
  | n + 1 => by simp [allL, allL_len n, Nat.pow_succ]; omega
theorem allL_le {n : Nat} (h : n ≤ 10) : (allL n).length ≤ 1024 := by
  rw [allL_len]
  exact Nat.pow_le_pow_right (by omega) h
theorem mem_allL : ∀ {n : Nat} {L : List Nat}, L ∈ allL n ↔ L.Pairwise (· < ·) ∧ ∀ x ∈ L, x < n
  | 0, L => by
    simp only [allL, List.mem_singleton, Nat.not_lt_zero, imp_false]
    constructor
    · rintro rfl; simp
    · rintro ⟨_, h⟩
      exact List.eq_nil_iff_forall_not_mem.2 h
  | n + 1, L => by
    simp only [allL, List.mem_append, List.mem_map, mem_allL (n := n)]
    constructor
    · rintro (⟨h1, h2⟩ | ⟨M, ⟨h1, h2⟩, rfl⟩)
      · exact ⟨h1, fun x hx => by have := h2 x hx; omega⟩
      · refine ⟨List.pairwise_append.2 ⟨h1, by simp, fun a ha b hb => by simp at hb; subst hb; exact h2 a ha⟩, fun x hx => ?_⟩
        rcases List.mem_append.1 hx with h | h
        · have := h2 x h; omega
        · simp at h; omega
    · rintro ⟨h1, h2⟩
      by_cases hn : n ∈ L
      · right
        obtain ⟨A, B, rfl⟩ := List.append_of_mem hn
        obtain ⟨p1, p2, p3⟩ := List.pairwise_append.1 h1
        have hB : B = [] := by
          apply List.eq_nil_iff_forall_not_mem.2
          intro x hx
          have := (List.pairwise_cons.1 p2).1 x hx
          have := h2 x (by simp [hx])
          omega
        subst hB
        exact ⟨A, ⟨p1, fun x hx => p3 x hx n (by simp)⟩, rfl⟩
      · left
        refine ⟨h1, fun x hx => ?_⟩
        have := h2 x hx
        rcases Nat.lt_or_ge x n with h | h
        · exact h
        · have : x = n := by omega
          subst this; exact absurd hx hn
theorem LOk_iff {t : Tb} {L : List Nat} : L ∈ allL (thr t) ↔ LOk t L := by
  rw [mem_allL]; exact ⟨fun h => ⟨h.2, h.1⟩, fun h => ⟨h.so, h.lt⟩⟩
def clsB (ps : List (Nat × Nat)) (L : List Nat) : Bool := ps.all fun p => decide (p.1 ∈ L) || !decide (p.2 ∈ L)
noncomputable def clL (t : Tb) : List (List Nat) := ((allL (thr t)).filter (clsB (stL t))).mergeSort (leOf szLt)
theorem clsB_iff {t : Tb} {L : List Nat} : clsB (stL t) L = true ↔ Closed t L := by
  simp only [clsB, List.all_eq_true, Bool.or_eq_true, decide_eq_true_eq, Bool.not_eq_true', decide_eq_false_iff_not]
  constructor
  · intro h a b s hb
    rcases h (a, b) (mem_stL.2 s) with h | h
    · exact h
    · exact absurd hb h
  · intro h p hp
    by_cases h2 : p.2 ∈ L
    · exact .inl (h p.1 p.2 (mem_stL.1 hp) h2)
    · exact .inr h2
theorem mem_clL {t : Tb} {L : List Nat} : L ∈ clL t ↔ LOk t L ∧ Closed t L := by
  unfold clL
  rw [List.mem_mergeSort, List.mem_filter, LOk_iff, clsB_iff]
theorem clL_len {t : Tb} (ok : BOk t) : (clL t).length ≤ 1024 := by
  unfold clL
  rw [List.length_mergeSort]
  exact Nat.le_trans (List.length_filter_le _ _) (allL_le ok.thr10)
noncomputable def stB (t : Tb) (L : List Nat) : Bool := L.all fun x => L.all fun y => decide (y ∈ rchL t x)
def addU {α : Type} [DecidableEq α] (K : List α) (x : α) : List α := if x ∈ K then K else K ++ [x]
def dedU {α : Type} [DecidableEq α] : List α → List α → List α
  | K, [] => K
  | K, x :: xs => dedU (addU K x) xs
noncomputable def prt (t : Tb) (s : Nat) : List Nat := (rchL t s).filter fun o => decide (s ∈ rchL t o)
noncomputable def ptL (t : Tb) : List (List Nat) := (dedU [] ((List.range' 0 (thr t)).map (prt t))).mergeSort (leOf lotLt)
def unS (A B : List Nat) : List Nat := (A ++ B).mergeSort fun a b => decide (a ≤ b)
structure Lif (t : Tb) (K Y : List (List Nat)) : Prop where
  nd : K.Nodup
  cl : ∀ L ∈ K, LOk t L ∧ Closed t L
  sub : ∀ L ∈ Y, L ∈ K
  nil : [] ∈ K
  ext : ∀ L ∈ K, L ∉ Y → ∀ P ∈ ptL t, P.headD 0 ∉ L → clsB (stL t) (unS L P) = true → unS L P ∈ K
  few : Y.length ≤ K.length
theorem Lif.le {t : Tb} (ok : BOk t) {K Y : List (List Nat)} (h : Lif t K Y) : K.length ≤ 1024 := by
  have := h.nd.length_le_of_subset (l₂ := clL t) fun L hL => mem_clL.2 (h.cl L hL)
  have := clL_len ok
  omega
def cAt (t : Tb) (i j : Nat) : Nat := (t.getD i []).getD j 0
theorem row_mem {t : Tb} {i : Nat} (hi : i < t.length) : t.getD i [] ∈ t := by
  rw [List.getD_eq_getElem?_getD, List.getElem?_eq_getElem hi]; exact List.getElem_mem hi
theorem row_len {t : Tb} (ok : BOk t) {i : Nat} (hi : i < t.length) : (t.getD i []).length = wd t := ok.sq _ (row_mem hi)
theorem set_rows {t : Tb} (ok : BOk t) {i : Nat} {r : List Nat} (hr : r.length = wd t) (hs : ∀ c ∈ r, isSg c) : BOk (t.set i r) ∧ wd (t.set i r) = wd t := by
  have hl : (t.set i r).length = t.length := by simp
  have hall : ∀ x ∈ t.set i r, x.length = wd t := fun x hx => by
    rcases List.mem_or_eq_of_mem_set hx with h | h
    · exact ok.sq x h
    · rw [h]; exact hr
  have hw : wd (t.set i r) = wd t := by
    have h1 := ok.h1
    cases e : t.set i r with
    | nil => rw [e] at hl; simp at hl; omega
    | cons x l => exact hall x (by rw [e]; simp)
  refine ⟨⟨by rw [hl]; exact ok.h1, by rw [hl]; exact ok.h5, by rw [hw]; exact ok.w1, by rw [hw]; exact ok.w5, fun x hx => by rw [hw]; exact hall x hx, fun x hx => ?_⟩, hw⟩
  rcases List.mem_or_eq_of_mem_set hx with h | h
  · exact ok.sg x h
  · rw [h]; exact hs
structure FArc where
  u : Nat
  v : Nat
  c : Int
  k : Nat
  s : Int
abbrev FCm := List (Nat × Int)
abbrev FWm := List (Nat × (Nat × Nat × Int))
def aput {β : Type} (C : List (Nat × β)) (k : Nat) (x : β) : List (Nat × β) := if k ∈ C.map (·.1) then C.map (fun p => if p.1 = k then (p.1, x) else p) else C ++ [(k, x)]
theorem look_app {β : Type} {C : List (Nat × β)} {k j : Nat} {x : β} (h : k ∉ C.map (·.1)) : (C ++ [(k, x)]).lookup j = if j = k then some x else C.lookup j := by
  induction C with
  | nil =>
    by_cases e : j = k
    · subst e; simp [List.lookup_cons]
    · have : (j == k) = false := by simpa using e
      simp [List.lookup_cons, this, e]
  | cons p C ih =>
    obtain ⟨a, b⟩ := p
    simp only [List.map_cons, List.mem_cons, not_or] at h
    rw [List.cons_append, List.lookup_cons, ih h.2, List.lookup_cons]
    by_cases e : j = a
    · subst e
      have : ¬ j = k := fun q => h.1 q.symm
      simp [this]
    · have : (j == a) = false := by simpa using e
      simp only [this]
theorem look_map {β : Type} {C : List (Nat × β)} {k j : Nat} {x : β} (h : k ∈ C.map (·.1)) : (C.map (fun p => if p.1 = k then (p.1, x) else p)).lookup j = if j = k then some x else C.lookup j := by
  induction C with
  | nil => simp at h
  | cons p C ih =>
    obtain ⟨a, b⟩ := p
    rw [List.map_cons]
    by_cases e : a = k
    · subst e
      simp only [if_true]
      rw [List.lookup_cons, List.lookup_cons]
      by_cases ej : j = a
      · subst ej; simp
      · have : (j == a) = false := by simpa using ej
        simp only [this, if_neg ej]
        by_cases hm : a ∈ C.map (·.1)
        · rw [ih hm, if_neg ej]
        · congr 1
          refine (List.map_congr_left fun p hp => ?_).trans (List.map_id _)
          rw [if_neg]; rfl
          intro q; exact hm (List.mem_map.2 ⟨p, hp, q⟩)
    · simp only [if_neg e]
      rw [List.lookup_cons, List.lookup_cons]
      have hm : k ∈ C.map (·.1) := by
        rcases List.mem_cons.1 h with q | q
        · exact absurd q.symm e
        · exact q
      by_cases ej : j = a
      · subst ej
        have : ¬ j = k := e
        simp [this]
      · have : (j == a) = false := by simpa using ej
        simp only [this]
        exact ih hm
theorem look_aput {β : Type} (C : List (Nat × β)) (k j : Nat) (x : β) : (aput C k x).lookup j = if j = k then some x else C.lookup j := by
  unfold aput
  by_cases h : k ∈ C.map (·.1)
  · rw [if_pos h]; exact look_map h
  · rw [if_neg h]; exact look_app h
theorem keys_aput {β : Type} (C : List (Nat × β)) (k : Nat) (x : β) : (aput C k x).map (·.1) = if k ∈ C.map (·.1) then C.map (·.1) else C.map (·.1) ++ [k] := by
  unfold aput
  by_cases h : k ∈ C.map (·.1)
  · rw [if_pos h, if_pos h, List.map_map]
    refine List.map_congr_left fun p _ => ?_
    simp only [Function.comp]
    split <;> rfl
  · rw [if_neg h, if_neg h]; simp
theorem keys_nd {β : Type} {C : List (Nat × β)} {k : Nat} {x : β} (h : (C.map (·.1)).Nodup) : ((aput C k x).map (·.1)).Nodup := by
  rw [keys_aput]
  split
  · exact h
  · rename_i hk
    rw [List.nodup_append]
    exact ⟨h, by simp, fun a ha b hb => by
      have : b = k := by simpa using hb
      subst this
      intro q; subst q; exact hk ha⟩
theorem keys_lt {β : Type} {C : List (Nat × β)} {k n : Nat} {x : β} (h : ∀ j ∈ C.map (·.1), j < n) (hk : k < n) : ∀ j ∈ (aput C k x).map (·.1), j < n := by
  rw [keys_aput]
  split
  · exact h
  · intro j hj
    rcases List.mem_append.1 hj with q | q
    · exact h j q
    · have : j = k := by simpa using q
      omega
def relax (s : FCm × FWm) (a : FArc) : FCm × FWm := match s.1.lookup a.u with
  | none => s
  | some cu => match s.1.lookup a.v with
    | none => (aput s.1 a.v (cu + a.c), aput s.2 a.v (a.u, a.k, a.s))
    | some cv => if cu + a.c < cv then (aput s.1 a.v (cu + a.c), aput s.2 a.v (a.u, a.k, a.s)) else s
structure BF (n : Nat) (A : List FArc) (src : Nat → Prop) (pi : Nat → Int) (t : Nat → Nat) (now : Nat) (s : FCm × FWm) : Prop where
  nd : (s.1.map (·.1)).Nodup
  lt : ∀ k ∈ s.1.map (·.1), k < n
  wnd : (s.2.map (·.1)).Nodup
  wlt : ∀ k ∈ s.2.map (·.1), k < n
  so : ∀ v, src v → s.1.lookup v = some 0 ∧ s.2.lookup v = none
  lo : ∀ v c, s.1.lookup v = some c → pi v ≤ c
  wy : ∀ v c, s.1.lookup v = some c → src v ∨ ∃ a cu, a ∈ A ∧ a.v = v ∧ s.2.lookup v = some (a.u, a.k, a.s) ∧ s.1.lookup a.u = some cu ∧ cu + a.c ≤ c ∧ (cu - pi a.u < c - pi v ∨ (cu - pi a.u = c - pi v ∧ t a.u < t v))
  wk : ∀ v x, s.2.lookup v = some x → ∃ c, s.1.lookup v = some c
  tn : ∀ v, t v ≤ now
structure Pot (n : Nat) (A : List FArc) (src : Nat → Prop) (pi : Nat → Int) : Prop where
  ar : ∀ a ∈ A, a.u < n ∧ a.v < n ∧ pi a.v ≤ pi a.u + a.c
  so : ∀ v, src v → pi v = 0 ∧ v < n
theorem BF.upd {n : Nat} {A : List FArc} {src : Nat → Prop} {pi : Nat → Int} {t : Nat → Nat} {now : Nat} {s : FCm × FWm} (P : Pot n A src pi) (h : BF n A src pi t now s) {a : FArc} (ha : a ∈ A) {cu : Int} (hu : s.1.lookup a.u = some cu) (hv : ∀ cv, s.1.lookup a.v = some cv → cu + a.c < cv) :
    BF n A src pi (fun x => if x = a.v then now + 1 else t x) (now + 1) (aput s.1 a.v (cu + a.c), aput s.2 a.v (a.u, a.k, a.s)) := by
  obtain ⟨a1, a2, a3⟩ := P.ar a ha
  have l1 := h.lo _ _ hu
  have nsrc : ¬ src a.v := fun q => by
    have h1 := hv 0 (h.so _ q).1
    have h2 := (P.so _ q).1
    omega
  have une : a.u ≠ a.v := fun e => by
    have := hv cu (by rw [← e]; exact hu)
    rw [e] at a3
    omega
  refine ⟨keys_nd h.nd, keys_lt h.lt a2, keys_nd h.wnd, keys_lt h.wlt a2, fun v q => ?_, fun v c e => ?_, fun v c e => ?_, fun v x e => ?_, fun v => ?_⟩
  · have : v ≠ a.v := fun e => nsrc (e ▸ q)
    simp only [look_aput, if_neg this]
    exact h.so v q
  · simp only [look_aput] at e
    split at e
    · rename_i q; subst q; cases e; omega
    · exact h.lo v c e
  · simp only [look_aput] at e
    by_cases q : v = a.v
    · rw [if_pos q] at e
      cases e
      refine .inr ⟨a, cu, ha, q.symm, by simp [look_aput, q], by simp [look_aput, une, hu], by omega, ?_⟩
      have ht := h.tn a.u
      simp only [q, if_true, if_neg une]
      omega
    · rw [if_neg q] at e
      rcases h.wy v c e with z | ⟨b, cb, b1, b2, b3, b4, b5, b6⟩
      · exact .inl z
      · right
        by_cases qb : b.u = a.v
        · have h1 := hv cb (by rw [← qb]; exact b4)
          refine ⟨b, cu + a.c, b1, b2, by simp [look_aput, q, b3], by simp [look_aput, qb], by omega, .inl ?_⟩
          rw [qb] at b6 ⊢
          omega
        · refine ⟨b, cb, b1, b2, by simp [look_aput, q, b3], by simp [look_aput, qb, b4], b5, ?_⟩
          simp only [if_neg q, if_neg qb]
          exact b6
  · simp only [look_aput] at e ⊢
    by_cases q : v = a.v
    · rw [if_pos q]; exact ⟨_, rfl⟩
    · rw [if_neg q] at e ⊢; exact h.wk v x e
  · have := h.tn v
    show (if v = a.v then now + 1 else t v) ≤ now + 1
    split <;> omega
theorem relax_cases (s : FCm × FWm) (a : FArc) : relax s a = s ∧ (∀ cu, s.1.lookup a.u = some cu → ∃ cv, s.1.lookup a.v = some cv ∧ cv ≤ cu + a.c) ∨ ∃ cu, s.1.lookup a.u = some cu ∧ (∀ cv, s.1.lookup a.v = some cv → cu + a.c < cv) ∧ relax s a = (aput s.1 a.v (cu + a.c), aput s.2 a.v (a.u, a.k, a.s)) := by
  unfold relax
  cases hu : s.1.lookup a.u with
  | none => exact .inl ⟨rfl, (fun cu e => by cases e)⟩
  | some cu =>
    cases hv : s.1.lookup a.v with
    | none => exact .inr ⟨cu, rfl, (fun cv e => by cases e), rfl⟩
    | some cv =>
      by_cases q : cu + a.c < cv
      · exact .inr ⟨cu, rfl, (fun cv' e => by cases e; exact q), by simp [q]⟩
      · refine .inl ⟨by simp [q], fun cu' e => ⟨cv, rfl, ?_⟩⟩
        cases e
        omega
theorem BF.relax {n : Nat} {A : List FArc} {src : Nat → Prop} {pi : Nat → Int} {s : FCm × FWm} (P : Pot n A src pi) (h : ∃ t now, BF n A src pi t now s) {a : FArc} (ha : a ∈ A) : ∃ t now, BF n A src pi t now (relax s a) := by
  obtain ⟨t, now, h⟩ := h
  rcases relax_cases s a with ⟨e, _⟩ | ⟨cu, hu, hv, e⟩
  · rw [e]; exact ⟨t, now, h⟩
  · rw [e]; exact ⟨_, _, h.upd P ha hu hv⟩
def rkLt (pi : Nat → Int) (t : Nat → Nat) (s : FCm × FWm) (u v : Nat) : Prop := ∃ cu cv, s.1.lookup u = some cu ∧ s.1.lookup v = some cv ∧ (cu - pi u < cv - pi v ∨ (cu - pi u = cv - pi v ∧ t u < t v))
theorem rkLt_trans {pi : Nat → Int} {t : Nat → Nat} {s : FCm × FWm} {x y z : Nat} (h : rkLt pi t s x y) (k : rkLt pi t s y z) : rkLt pi t s x z := by
  obtain ⟨c1, c2, h1, h2, h3⟩ := h
  obtain ⟨c2', c3, k1, k2, k3⟩ := k
  rw [h2] at k1
  cases k1
  exact ⟨c1, c3, h1, k2, by omega⟩
theorem rkLt_irr {pi : Nat → Int} {t : Nat → Nat} {s : FCm × FWm} {x : Nat} (h : rkLt pi t s x x) : False := by
  obtain ⟨c1, c2, h1, h2, h3⟩ := h
  rw [h1] at h2
  cases h2
  omega
inductive Chn (A : List FArc) (src : Nat → Prop) (pi : Nat → Int) (t : Nat → Nat) (s : FCm × FWm) : Nat → List FArc → Prop where
  | nil {v : Nat} (h : src v) : Chn A src pi t s v []
  | cons {a : FArc} {L : List FArc} (h : Chn A src pi t s a.u L) (ha : a ∈ A) (hw : s.2.lookup a.v = some (a.u, a.k, a.s)) (hr : rkLt pi t s a.u a.v) (hc : ∀ cu cv, s.1.lookup a.u = some cu → s.1.lookup a.v = some cv → cu + a.c ≤ cv) : Chn A src pi t s a.v (a :: L)
section
variable {n : Nat} {A : List FArc} {src : Nat → Prop} {pi : Nat → Int} {t : Nat → Nat} {now : Nat} {s : FCm × FWm}
def hds (L : List FArc) : List Nat := L.map (·.v)
theorem Chn.rk (h : BF n A src pi t now s) {v : Nat} {L : List FArc} (k : Chn A src pi t s v L) : ∀ a ∈ L, (a.v = v ∨ rkLt pi t s a.v v) ∧ rkLt pi t s a.u v ∧ rkLt pi t s a.u a.v := by
  induction k with
  | nil q => intro a ha; cases ha
  | @cons b L k hb hw hr hc ih =>
    intro a ha
    rcases List.mem_cons.1 ha with q | q
    · subst q; exact ⟨.inl rfl, hr, hr⟩
    · obtain ⟨i1, i2, i3⟩ := ih a q
      refine ⟨.inr ?_, rkLt_trans i2 hr, i3⟩
      rcases i1 with z | z
      · rw [z]; exact hr
      · exact rkLt_trans z hr
theorem Chn.nd (h : BF n A src pi t now s) {v : Nat} {L : List FArc} (k : Chn A src pi t s v L) : (hds L).Nodup := by
  induction k with
  | nil q => simp [hds]
  | @cons b L k hb hw hr hc ih =>
    refine List.nodup_cons.2 ⟨fun q => ?_, ih⟩
    obtain ⟨a, ha, e⟩ := List.mem_map.1 q
    obtain ⟨i1, -, -⟩ := Chn.rk h k a ha
    rcases i1 with z | z
    · rw [← z, e] at hr; exact rkLt_irr hr
    · have := rkLt_trans z hr
      rw [e] at this; exact rkLt_irr this
def beg : Nat → List FArc → Nat
  | v, [] => v
  | _, a :: L => beg a.u L
theorem Chn.bg {v : Nat} {L : List FArc} (k : Chn A src pi t s v L) : src (beg v L) := by
  induction k with
  | nil q => exact q
  | cons k _ _ _ _ ih => exact ih
theorem Chn.mem {v : Nat} {L : List FArc} (k : Chn A src pi t s v L) : ∀ a ∈ L, a ∈ A ∧ s.2.lookup a.v = some (a.u, a.k, a.s) ∧ ∀ cu cv, s.1.lookup a.u = some cu → s.1.lookup a.v = some cv → cu + a.c ≤ cv := by
  induction k with
  | nil q => intro a ha; cases ha
  | @cons b L k hb hw hr hc ih =>
    intro a ha
    rcases List.mem_cons.1 ha with q | q
    · subst q; exact ⟨hb, hw, hc⟩
    · exact ih a q
theorem Chn.len (P : Pot n A src pi) (h : BF n A src pi t now s) {v : Nat} {L : List FArc} (k : Chn A src pi t s v L) {x : Nat} (hx : x < n) (hn : ∀ y, (y = beg v L ∨ y ∈ hds L) → y ≠ x) : L.length + 2 ≤ n := by
  have hb : beg v L ∉ hds L := fun q => by
    obtain ⟨a, ha, e⟩ := List.mem_map.1 q
    have h1 := (k.mem a ha).2.1
    have h2 := (h.so _ k.bg).2
    rw [← e, h1] at h2; cases h2
  have nd : (x :: beg v L :: hds L).Nodup := by
    refine List.nodup_cons.2 ⟨fun q => ?_, List.nodup_cons.2 ⟨hb, k.nd h⟩⟩
    rcases List.mem_cons.1 q with z | z
    · exact hn x (.inl z) rfl
    · exact hn x (.inr z) rfl
  have := nd.length_le_of_subset (l₂ := List.range n) fun y hy => by
    rcases List.mem_cons.1 hy with z | z
    · rw [z]; exact List.mem_range.2 hx
    · rcases List.mem_cons.1 z with z | z
      · rw [z]; exact List.mem_range.2 (P.so _ k.bg).2
      · obtain ⟨a, ha, e⟩ := List.mem_map.1 z
        rw [← e]; exact List.mem_range.2 (P.ar a (k.mem a ha).1).2.1
  simp only [List.length_cons, List.length_range, hds, List.length_map] at this
  omega
end
def sm (F : Nat → Int) : Nat → Int
  | 0 => 0
  | n + 1 => sm F n + F n
theorem sm_congr {F G : Nat → Int} : ∀ {n : Nat}, (∀ k, k < n → F k = G k) → sm F n = sm G n
  | 0, _ => rfl
  | n + 1, h => by rw [sm, sm, sm_congr fun k hk => h k (by omega), h n (by omega)]
theorem sm_add {F G : Nat → Int} : ∀ {n : Nat}, sm (fun k => F k + G k) n = sm F n + sm G n
  | 0 => rfl
  | n + 1 => by simp only [sm, sm_add (n := n)]; omega
theorem sm_sub {F G : Nat → Int} : ∀ {n : Nat}, sm (fun k => F k - G k) n = sm F n - sm G n
  | 0 => rfl
  | n + 1 => by simp only [sm, sm_sub (n := n)]; omega
theorem sm_mulL {F : Nat → Int} {c : Int} : ∀ {n : Nat}, sm (fun k => c * F k) n = c * sm F n
  | 0 => by simp [sm]
  | n + 1 => by simp only [sm, sm_mulL (n := n), Int.mul_add]
theorem sm_zero : ∀ {n : Nat}, sm (fun _ => 0) n = 0
  | 0 => rfl
  | n + 1 => by simp only [sm, sm_zero (n := n)]; rfl
theorem sm_swap {F : Nat → Nat → Int} {m : Nat} : ∀ {n : Nat}, sm (fun v => sm (fun k => F k v) m) n = sm (fun k => sm (fun v => F k v) n) m
  | 0 => by simp only [sm]; exact sm_zero.symm
  | n + 1 => by simp only [sm, sm_swap (n := n)]; rw [← sm_add]
theorem sm_one {j : Nat} {d : Int} : ∀ {n : Nat}, sm (fun k => if k = j then d else 0) n = if j < n then d else 0
  | 0 => by simp [sm]
  | n + 1 => by
    rw [sm, sm_one (n := n)]
    by_cases h : n = j
    · subst h; simp
    · by_cases h2 : j < n
      · have : j < n + 1 := by omega
        simp [h, h2, this]
      · have : ¬ j < n + 1 := by omega
        simp [h, h2, this]
theorem sm_le {F G : Nat → Int} : ∀ {n : Nat}, (∀ k, k < n → F k ≤ G k) → sm F n ≤ sm G n
  | 0, _ => Int.le_refl _
  | n + 1, h => by
    have h1 := sm_le (F := F) (G := G) (n := n) fun k hk => h k (by omega)
    have h2 := h n (by omega)
    simp only [sm]; omega
abbrev Sts := List (Nat × Nat)
def s1 (ps : Sts) (k : Nat) : Nat := (ps.getD k (0, 0)).1
def s2 (ps : Sts) (k : Nat) : Nat := (ps.getD k (0, 0)).2
def ind (a b : Nat) : Int := if a = b then 1 else 0
def sgn (ps : Sts) (k v : Nat) : Int := ind (s1 ps k) v - ind (s2 ps k) v
def gt (f : List Int) (k : Nat) : Int := f.getD k 0
def dvg (ps : Sts) (f : List Int) (v : Nat) : Int := sm (fun k => gt f k * sgn ps k v) ps.length
theorem gt_set {f : List Int} {j k : Nat} {y : Int} (hj : j < f.length) : gt (f.set j y) k = if k = j then y else gt f k := by
  unfold gt
  rw [List.getD_eq_getElem?_getD, List.getElem?_set, List.getD_eq_getElem?_getD]
  by_cases h : k = j
  · subst h; simp [hj]
  · have : ¬ j = k := fun e => h e.symm
    simp [h, this]
theorem sm_ind {n a : Nat} {g : Nat → Int} (h : a < n) : sm (fun v => g v * ind a v) n = g a := by
  have e : sm (fun v => g v * ind a v) n = sm (fun v => if v = a then g a else 0) n := sm_congr fun v _ => by
    unfold ind
    by_cases q : v = a
    · subst q; simp
    · have : ¬ a = v := fun e => q e.symm
      simp [q, this]
  rw [e, sm_one, if_pos h]
structure StsOk (n : Nat) (ps : Sts) : Prop where
  lt : ∀ k, k < ps.length → s1 ps k < n ∧ s2 ps k < n
theorem sm_dv {n : Nat} {ps : Sts} (ok : StsOk n ps) (f : List Int) (g : Nat → Int) : sm (fun v => g v * dvg ps f v) n = sm (fun k => gt f k * (g (s1 ps k) - g (s2 ps k))) ps.length := by
  have e : sm (fun v => g v * dvg ps f v) n = sm (fun v => sm (fun k => gt f k * (g v * ind (s1 ps k) v) - gt f k * (g v * ind (s2 ps k) v)) ps.length) n := sm_congr fun v _ => by
    unfold dvg
    rw [← sm_mulL]
    refine sm_congr fun k _ => ?_
    unfold sgn
    rw [Int.mul_sub, Int.mul_sub]
    rw [Int.mul_left_comm, Int.mul_left_comm (g v)]
  rw [e, sm_swap]
  refine sm_congr fun k hk => ?_
  obtain ⟨h1, h2⟩ := ok.lt k hk
  rw [sm_sub, sm_mulL, sm_mulL, sm_ind h1, sm_ind h2, Int.mul_sub]
abbrev Rooms := Option (List Int)
section
variable {n : Nat} {ps : Sts} {R : Rooms} {pr load f left : List Int}
structure Carry (n : Nat) (ps : Sts) (R : Rooms) (load g : List Int) : Prop where
  len : g.length = ps.length
  lo : ∀ k, k < ps.length → 0 ≤ gt g k
  up : ∀ r, R = some r → ∀ k, k < ps.length → gt g k ≤ gt r k
  dv : ∀ v, v < n → dvg ps g v = gt load v
def isIn (S : Nat → Bool) (v : Nat) : Int := if S v = true then 1 else 0
def outR (ps : Sts) (r : List Int) (S : Nat → Bool) : Int := sm (fun k => if S (s1 ps k) = true ∧ S (s2 ps k) = false then gt r k else 0) ps.length
theorem Carry.cut {load g : List Int} (ok : StsOk n ps) {r : List Int} (C : Carry n ps (some r) load g) (S : Nat → Bool) : sm (fun v => isIn S v * gt load v) n ≤ outR ps r S := by
  have e : sm (fun v => isIn S v * gt load v) n = sm (fun k => gt g k * (isIn S (s1 ps k) - isIn S (s2 ps k))) ps.length := by
    rw [← sm_dv ok g (isIn S)]
    exact sm_congr fun v hv => by rw [C.dv v hv]
  rw [e]
  refine sm_le fun k hk => ?_
  have h1 := C.lo k hk
  have h2 := C.up r rfl k hk
  unfold isIn
  cases q1 : S (s1 ps k) <;> cases q2 : S (s2 ps k) <;> simp <;> omega
end
abbrev mn (i j : Int) : Int := if j < i then j else i
def putC (u : Tb) (i j c : Nat) : Tb := u.set i ((u.getD i []).set j c)
theorem putC_ok {u : Tb} (ok : BOk u) {i j c : Nat} (hi : i < u.length) (hc : isSg c) : BOk (putC u i j c) ∧ wd (putC u i j c) = wd u ∧ (putC u i j c).length = u.length := by
  obtain ⟨h1, h2⟩ := set_rows ok (i := i) (r := (u.getD i []).set j c) (by rw [List.length_set]; exact row_len ok hi) fun x hx => by
    rcases List.mem_or_eq_of_mem_set hx with q | q
    · exact ok.sg _ (row_mem hi) x q
    · rw [q]; exact hc
  exact ⟨h1, h2, by simp [putC]⟩
inductive Dd where
  | fill (i j c : Nat) | cut (i j : Nat) | stand (x : Nat) | leave
section
variable {u : Tb}
abbrev somes (th : List (Option Nat)) : List Nat := th.filterMap id
end
abbrev St3 := Tb × List Nat × List (Option Nat)
structure SOk (t : Tb) (bs : List (List Dd)) (s : St3) : Prop where
  ok : BOk s.1
  h : s.1.length = t.length
  w : wd s.1 = wd t
  pl : s.2.1.length = bs.length
  th : s.2.2.length = bs.length
  le : ∀ k, k < bs.length → s.2.1.getD k 0 ≤ (bs.getD k []).length
  lt : ∀ x ∈ somes s.2.2, x < thr t
noncomputable def fin3 (k p : Nat) (pl : List Nat) (u : Tb) (th : List (Option Nat)) : Option St3 := if stB u (somes th) = true then some (u, pl.set k (p + 1), th) else none
noncomputable def act (bs : List (List Dd)) (s : St3) (k : Nat) : Option St3 :=
  if s.2.1.getD k 0 = (bs.getD k []).length then none else
  match (bs.getD k []).getD (s.2.1.getD k 0) .leave with
  | .fill i j c => if cAt s.1 i j = 46 then fin3 k (s.2.1.getD k 0) s.2.1 (putC s.1 i j c) s.2.2 else none
  | .cut i j => if cAt s.1 i j = 46 then none else fin3 k (s.2.1.getD k 0) s.2.1 (putC s.1 i j 46) s.2.2
  | .stand x => if s.2.2.getD k none = none then fin3 k (s.2.1.getD k 0) s.2.1 s.1 (s.2.2.set k (some x)) else none
  | .leave => if s.2.2.getD k none = none then none else fin3 k (s.2.1.getD k 0) s.2.1 s.1 (s.2.2.set k none)
section
variable {t : Tb}
abbrev s0' (t : Tb) (bs : List (List Dd)) : St3 := (t, List.replicate bs.length 0, List.replicate bs.length none)
theorem s0_ok (ok : BOk t) (bs : List (List Dd)) : SOk t bs (s0' t bs) where
  ok := ok
  h := rfl
  w := rfl
  pl := by simp
  th := by simp
  le := fun k hk => by simp [List.getD_eq_getElem?_getD, List.getElem?_replicate, hk]
  lt := fun x hx => by
    obtain ⟨y, hy, e⟩ := List.mem_filterMap.1 hx
    rw [List.eq_of_mem_replicate hy] at e; cases e
end
section
variable {n : Nat} {A : List FArc} {pi : Nat → Int}
def Tells (n : Nat) (s : FCm × FWm) (h : List Int) : Prop := h.length = n ∧ s.1.lookup n = some 0 ∧ ∀ v, v < n → s.1.lookup v = some (gt h v)
def hstep (h : List Int) (a : FArc) : List Int := h.set a.v (if gt h a.u + a.c < gt h a.v then gt h a.u + a.c else gt h a.v)
theorem Tells.step {s : FCm × FWm} {h : List Int} (T : Tells n s h) {a : FArc} (hu : a.u < n) (hv : a.v < n) : Tells n (relax s a) (hstep h a) := by
  obtain ⟨h1, h2, h3⟩ := T
  have eu := h3 _ hu
  have ev := h3 _ hv
  refine ⟨by simp [hstep, h1], ?_, fun v hvn => ?_⟩
  · simp only [relax, eu, ev]
    split
    · simp only [look_aput]
      rw [if_neg (by omega)]
      exact h2
    · exact h2
  · simp only [relax, eu, ev, hstep]
    rw [gt_set (by omega)]
    by_cases q : v = a.v
    · rw [if_pos q]
      split
      · simp only [look_aput]
        rw [if_pos q]
      · rw [q]; exact ev
    · rw [if_neg q]
      split
      · simp only [look_aput]
        rw [if_neg q]
        exact h3 v hvn
      · exact h3 v hvn
end
structure Same (t u : Tb) : Prop where
  ok : BOk u
  h : u.length = t.length
  w : wd u = wd t
theorem Same.put {t u : Tb} (S : Same t u) {i j c : Nat} (hi : i < u.length) (hc : isSg c) : Same t (putC u i j c) := by
  obtain ⟨o1, o2, o3⟩ := putC_ok S.ok (i := i) (j := j) (c := c) hi hc
  exact ⟨o1, by rw [o3, S.h], by rw [o2, S.w]⟩
theorem Same.thr {t u : Tb} (S : Same t u) : thr u = LW.thr t := by unfold LW.thr; rw [S.h, S.w]
section
variable {t : Tb} {i j m : Nat}
structure More (t : Tb) (i j m : Nat) : Prop where
  ok : BOk t
  hi : i < t.length
  hj : j < wd t
  hm : (cAt t i j = 46 ∧ (m = 60 ∨ m = 62 ∨ m = 120)) ∨ m = 120
theorem More.sg (M : More t i j m) : isSg m := by
  rcases M.hm with ⟨-, h⟩ | h
  · exact .inr h
  · exact .inr (.inr (.inr h))
theorem More.put (M : More t i j m) : BOk (putC t i j m) ∧ wd (putC t i j m) = wd t ∧ (putC t i j m).length = t.length := putC_ok M.ok M.hi M.sg
theorem More.thr (M : More t i j m) : thr (putC t i j m) = LW.thr t := by obtain ⟨-, a, b⟩ := M.put; unfold LW.thr; rw [a, b]
end
structure WkS (t : Tb) (bs : List (List Dd)) (ks : List Nat) (ss : List St3) : Prop where
  ln : ss.length = ks.length + 1
  s0 : ss[0]? = some (s0' t bs)
  ok : ∀ s ∈ ss, SOk t bs s
  kb : ∀ k ∈ ks, k < bs.length
  st : ∀ i k s, ks[i]? = some k → ss[i]? = some s → ∃ s', act bs s k = some s' ∧ ss[i + 1]? = some s'
  le : ks.length ≤ 18
theorem seqF_nx {a b : Env → SO} {ε ε' : Env} (h : a ε = .nx ε') : seqF a b ε = b ε' := by
  simp only [seqF, h]
def total (bs : List (List Dd)) : Nat := (bs.map List.length).sum
theorem sum_le_tot : ∀ (bs : List (List Dd)) (pl : List Nat), pl.length = bs.length → (∀ k, k < bs.length → pl.getD k 0 ≤ (bs.getD k []).length) → pl.sum ≤ total bs
  | [], pl, h, _ => by
    cases pl with
    | nil => simp [total]
    | cons _ _ => simp at h
  | b :: bs, [], h, _ => by simp at h
  | b :: bs, x :: pl, h, hk => by
    have h0 := hk 0 (by simp)
    have := sum_le_tot bs pl (by simpa using h) fun k hk' => by simpa using hk (k + 1) (by simpa using hk')
    simp only [List.getD_cons_zero] at h0
    unfold total at this ⊢
    simp only [List.sum_cons, List.map_cons]; omega
theorem WkS.nil {t : Tb} (ok : BOk t) (bs : List (List Dd)) : WkS t bs [] [s0' t bs] where
  ln := rfl
  s0 := rfl
  ok := fun s hs => by simp at hs; subst hs; exact s0_ok ok bs
  kb := by simp
  st := fun i k s h => by simp at h
  le := by simp
structure Go (t : Tb) (bs : List (List Dd)) (x : List Nat × St3) : Prop where
  w : ∃ ss, WkS t bs x.1 ss ∧ ss[x.1.length]? = some x.2
  sm : x.2.2.1.sum = x.1.length
theorem Go.S {t : Tb} {bs : List (List Dd)} {x : List Nat × St3} (G : Go t bs x) : SOk t bs x.2 := by
  obtain ⟨ss, W, h⟩ := G.w
  exact W.ok _ (List.mem_of_getElem? h)
theorem Go.le {t : Tb} {bs : List (List Dd)} {x : List Nat × St3} (G : Go t bs x) : x.1.length ≤ total bs := by
  rw [← G.sm]
  exact sum_le_tot bs _ G.S.pl G.S.le
def Pd (n : Nat) (d : D) : Prop := PySem.PyData.canLay0 (toPy d) = true ∧ PySem.PyData.depth (toPy d) ≤ n
theorem pdAll {n : Nat} : ∀ {ds : List D}, (∀ d ∈ ds, Pd n d) → PySem.PyData.canLayAll0 (toPyL ds) = true ∧ PySem.PyData.depthAll (toPyL ds) ≤ n
  | [], _ => ⟨rfl, Nat.zero_le _⟩
  | d :: ds, h => by
    obtain ⟨a, b⟩ := h d (List.mem_cons_self ..)
    obtain ⟨a2, b2⟩ := pdAll (ds := ds) fun x hx => h x (List.mem_cons_of_mem _ hx)
    simp only [toPyL, PySem.PyData.canLayAll0, PySem.PyData.depthAll, a, a2, Bool.and_self, true_and]
    omega
theorem Pd.lst {n : Nat} {ds : List D} (h : ∀ d ∈ ds, Pd n d) : Pd (n + 1) (.lst ds) := by
  obtain ⟨a, b⟩ := pdAll h
  simp only [Pd, toPy, PySem.PyData.canLay0, PySem.PyData.depth, a, true_and]; omega
theorem Pd.tup {n : Nat} {ds : List D} (h : ∀ d ∈ ds, Pd n d) : Pd (n + 1) (.tup ds) := by
  obtain ⟨a, b⟩ := pdAll h
  simp only [Pd, toPy, PySem.PyData.canLay0, PySem.PyData.depth, a, true_and]; omega
theorem Pd.ok {n : Nat} {d : D} (h : Pd n d) (hn : n ≤ 64) : okPy d = true := by
  obtain ⟨a, b⟩ := h
  simp only [okPy, PySem.SeqAt.shaped, a, Bool.true_and, decide_eq_true_eq]; omega
theorem ne_nilP {xs : List D} (h : okPy (.lst xs) = true) : neD (.lst xs) (.lst []) = some (.bl (!xs.isEmpty)) := by
  unfold neD
  rw [if_pos (by rw [h]; rfl)]
  cases xs with
  | nil => rfl
  | cons x xs =>
    show some (D.bl (!eqB (.lst (x :: xs)) (.lst []))) = _
    simp [eqB, toPy, toPyL, PySem.PyData.eqv, PySem.PyData.eqvAll]
theorem eq_nilL {xs : List D} (h : okPy (.lst xs) = true) : eqD (.lst xs) (.lst []) = some (.bl xs.isEmpty) := by
  unfold eqD
  rw [if_pos (by rw [h]; rfl)]
  cases xs with
  | nil => rfl
  | cons x xs =>
    show some (D.bl (eqB (.lst (x :: xs)) (.lst []))) = _
    simp [eqB, toPy, toPyL, PySem.PyData.eqv, PySem.PyData.eqvAll]
abbrev Shd := List (Nat × Nat)
structure PrI (t u : Tb) (i : Nat) (S : Shd) (L : List Nat) : Prop where
  lt : ∀ p ∈ S, p.1 < i ∧ p.2 < thr u ∧ (p.1 < t.length ↔ p.2 < u.length)
  asc : S.Pairwise fun p q => p.1 < q.1
  nd : (S.map (·.2)).Nodup
  le : S.length ≤ i
  lf : ∀ m ∈ L, m < thr u ∧ m ∉ S.map (·.2)
  ln : L.Nodup
  ll : L.length ≤ 10
theorem PrI.put {t u : Tb} {i : Nat} {S : Shd} {L : List Nat} (P : PrI t u i S L) {m : Nat} (hm : m ∈ L) (hr : i < t.length ↔ m < u.length) : PrI t u (i + 1) (S ++ [(i, m)]) (L.erase m) where
  lt := fun p hp => by
    rcases List.mem_append.1 hp with q | q
    · obtain ⟨a, b, c⟩ := P.lt p q; exact ⟨by omega, b, c⟩
    · have : p = (i, m) := by simpa using q
      subst this
      exact ⟨by simp, (P.lf m hm).1, hr⟩
  asc := by
    rw [List.pairwise_append]
    refine ⟨P.asc, by simp, fun p hp q hq => ?_⟩
    have : q = (i, m) := by simpa using hq
    subst this
    exact (P.lt p hp).1
  nd := by
    rw [List.map_append, List.nodup_append]
    refine ⟨P.nd, by simp, fun a ha b hb => ?_⟩
    have : b = m := by simpa using hb
    subst this
    exact fun e => (P.lf b hm).2 (e ▸ ha)
  le := by have := P.le; simp; omega
  lf := fun x hx => by
    have h1 := (P.ln.mem_erase_iff).1 hx
    refine ⟨(P.lf x h1.2).1, ?_⟩
    rw [List.map_append, List.mem_append]
    rintro (q | q)
    · exact (P.lf x h1.2).2 q
    · exact h1.1 (by simpa using q)
  ln := P.ln.erase m
  ll := Nat.le_trans (List.length_erase_le) P.ll
inductive Lk (T : List (Nat × Nat)) (s : Nat) : Nat → Prop where
  | refl : Lk T s s
  | step {a b : Nat} : Lk T s a → (a, b) ∈ T → Lk T s b
theorem Lk.trans {T : List (Nat × Nat)} {a b c : Nat} (h : Lk T a b) (k : Lk T b c) : Lk T a c := by
  induction k with
  | refl => exact h
  | step _ s ih => exact .step ih s
theorem cutL_nat (xs : List D) (k : Nat) : cutL xs none (some (k : Int)) = xs.take k ∧ cutL xs (some (k : Int)) none = xs.drop k := by
  constructor
  · simp only [cutL, HT.sIx_none, HT.sIx_nat, List.drop_zero, Nat.sub_zero]
    by_cases h : k ≤ xs.length
    · rw [Nat.min_eq_left h]
    · rw [Nat.min_eq_right (by omega), List.take_of_length_le (Nat.le_refl _), List.take_of_length_le (by omega)]
  · simp only [cutL, HT.sIx_none, HT.sIx_nat]
    by_cases h : k ≤ xs.length
    · rw [Nat.min_eq_left h, List.take_of_length_le (by simp)]
    · rw [Nat.min_eq_right (by omega), Nat.sub_self, List.take_zero, List.drop_of_length_le (by omega)]
theorem sl_toL (xs : List D) (k : Nat) : sliceD (.lst xs) none (some (k : Int)) = some (.lst (xs.take k)) := by
  show some (D.lst (cutL xs none (some (k : Int)))) = _
  rw [(cutL_nat xs k).1]
@[simp] theorem testVF_ap {f : Env → Out D} {ε : Env} : testVF f ε = (f ε).bnd testVK := rfl
section
variable {t : Tb}
theorem add_ords {A B : List D} (h : A.length + B.length ≤ 100000) : addD (.lst A) (.lst B) = some (.lst (A ++ B)) := by
  simp only [addD, if_pos h]
end
section
variable {α : Type}
def mgK (le : α → α → Bool) : Nat → List α → List α → List α
  | 0, xs, ys => xs ++ ys
  | n + 1, [], ys => ys
  | n + 1, x :: xs, [] => x :: xs
  | n + 1, x :: xs, y :: ys => if le x y = true then x :: mgK le n xs (y :: ys) else y :: mgK le n (x :: xs) ys
def msK (le : α → α → Bool) : Nat → List α → List α
  | 0, xs => xs
  | n + 1, [] => []
  | n + 1, [a] => [a]
  | n + 1, a :: b :: xs => mgK le (xs.length + 2) (msK le n ((a :: b :: xs).take ((xs.length + 3) / 2))) (msK le n ((a :: b :: xs).drop ((xs.length + 3) / 2)))
theorem mg_eq (le : α → α → Bool) : ∀ (n : Nat) (xs ys : List α), xs.length + ys.length ≤ n → List.merge xs ys le = mgK le n xs ys
  | 0, xs, ys, h => by
    have h1 : xs = [] := List.eq_nil_of_length_eq_zero (by omega)
    have h2 : ys = [] := List.eq_nil_of_length_eq_zero (by omega)
    subst h1; subst h2
    simp [List.merge, mgK]
  | n + 1, [], ys, h => by simp [mgK]
  | n + 1, x :: xs, [], h => by simp [mgK]
  | n + 1, x :: xs, y :: ys, h => by
    simp only [List.length_cons] at h
    rw [List.cons_merge_cons, mgK, mg_eq le n xs (y :: ys) (by simp; omega), mg_eq le n (x :: xs) ys (by simp; omega)]
theorem ms_eq (le : α → α → Bool) : ∀ (n : Nat) (xs : List α), xs.length ≤ n → xs.mergeSort le = msK le n xs
  | 0, xs, h => by
    have h1 : xs = [] := List.eq_nil_of_length_eq_zero (by omega)
    subst h1
    simp [msK]
  | n + 1, [], h => by simp [msK]
  | n + 1, [a], h => by simp [msK]
  | n + 1, a :: b :: xs, h => by
    simp only [List.length_cons] at h
    rw [List.mergeSort, msK]
    have e : ∀ l : List α, l.length ≤ n → l.mergeSort le = msK le n l := fun l hl => ms_eq le n l hl
    simp only [List.MergeSort.Internal.splitInTwo_fst, List.MergeSort.Internal.splitInTwo_snd, List.length_cons]
    rw [e _ (by simp; omega), e _ (by simp; omega), mg_eq le (xs.length + 2)]
    rw [← e _ (by simp; omega), ← e _ (by simp; omega), List.length_mergeSort, List.length_mergeSort]
    simp; omega
def stK (le : α → α → Bool) (xs : List α) : List α := msK le xs.length xs
theorem st_eq (le : α → α → Bool) (xs : List α) : xs.mergeSort le = stK le xs := ms_eq le _ xs (Nat.le_refl _)
end
def sortADk : List D → Option D := oneD fun
  | .lst ds => if sortOk ds = true then some (.lst (stK (PySem.W.dataLe false toPy) ds)) else none
  | .dk ks _ => (keyInts ks).bind fun ns => if ns.length < 64 then some (.lst ((stK (fun a b => decide (a ≤ b)) ns).map .int)) else none
  | .dt ks _ => if okT ks = true then some (.lst ((stK (PySem.W.dataLe false MH.keyPy) ks).map tupD)) else none
  | .tup ds => if sortOk ds = true then some (.lst (stK (PySem.W.dataLe false toPy) ds)) else none
  | _ => none
theorem sortADk_eq : sortAD = sortADk := by
  unfold sortAD sortADk
  congr 1
  funext d
  cases d <;> simp only [sortL, sortI, sortT, st_eq]
def EB_all_steps : ML.Env → SO :=
  (seqF (parF 1 2 (lstM nilF) (fzM (cbF (consF (fldF (varF 0) 0 "table") nilF) (lenA 0 F_Board___len__))))
  (seqF (forS (enF (fldF (varF 0) 0 "table")) (gtupF 2 (gconsF (gnF 3) (gconsF (gnF 4) gnilF))) B_all_steps_L2)
  (retF (cbF (consF (varF 1) nilF) sortADk))))
theorem q_B_all_steps : B_all_steps = EB_all_steps := by
  unfold B_all_steps EB_all_steps
  simp only [sortADk_eq]
def EF_all_steps : List D → Rt := runF 7 EB_all_steps
theorem q_F_all_steps : F_all_steps = EF_all_steps := by
  unfold F_all_steps EF_all_steps
  simp only [q_B_all_steps]
def EB_strengths_of : ML.Env → SO :=
  (retF (cbF (consF (frzF (lcM [2] (itF (callF 1 (consF (varF 0) nilF) EF_all_steps)) (gnF 2) tYesF (op2F (op2F (varF 1) (cbF (consF (varF 2) nilF) minTD) ixD) (op2F (cbF (consF (varF 2) nilF) maxTD) (propF (varF 0) 0 F_Board_rows) subD) ixD))) nilF) tupleD))
theorem q_B_strengths_of : B_strengths_of = EB_strengths_of := by
  unfold B_strengths_of EB_strengths_of
  simp only [q_F_all_steps]
def EF_strengths_of : List D → Rt := runF 3 EB_strengths_of
theorem q_F_strengths_of : F_strengths_of = EF_strengths_of := by
  unfold F_strengths_of EF_strengths_of
  simp only [q_B_strengths_of]
def EB_Desk___init__ : ML.Env → SO :=
  (seqF (dropF (callF 1 (consF (varF 1) nilF) F_need_board))
  (seqF (asgF (op2F (tupF (consF (op2F (tupF (consF (cF (.int 1)) nilF)) (propF (varF 1) 0 F_Board_columns) mulD) nilF)) (propF (varF 1) 0 F_Board_rows) mulD) (gnF 2))
  (seqF (sfldF 0 1 "past" (tupF (consF (tupF (consF (varF 1) (consF (op2F (tupF (consF (cF (.int 0)) nilF)) (cbF (consF (varF 1) nilF) (lenA 0 F_Board___len__)) mulD) (consF (varF 2) (consF (callF 2 (consF (varF 1) (consF (varF 2) nilF)) EF_strengths_of) nilF))))) nilF)))
  (sfldF 0 1 "undone" (tupF nilF)))))
theorem q_B_Desk___init__ : B_Desk___init__ = EB_Desk___init__ := by
  unfold B_Desk___init__ EB_Desk___init__
  simp only [q_F_strengths_of]
def EF_Desk___init__ : D → List D → RtM := runM 3 EB_Desk___init__
theorem q_F_Desk___init__ : F_Desk___init__ = EF_Desk___init__ := by
  unfold F_Desk___init__ EF_Desk___init__
  simp only [q_B_Desk___init__]
def EB_Desk_set_state : ML.Env → SO :=
  (seqF (sfldF 0 1 "past" (tupF (starF (pfldF 0 1 "past") (consF (tupF (consF (varF 1) (consF (varF 2) (consF (varF 3) (consF (callF 2 (consF (varF 1) (consF (varF 3) nilF)) EF_strengths_of) nilF))))) nilF))))
  (sfldF 0 1 "undone" (tupF nilF)))
theorem q_B_Desk_set_state : B_Desk_set_state = EB_Desk_set_state := by
  unfold B_Desk_set_state EB_Desk_set_state
  simp only [q_F_strengths_of]
def EF_Desk_set_state : D → List D → RtM := runM 4 EB_Desk_set_state
theorem q_F_Desk_set_state : F_Desk_set_state = EF_Desk_set_state := by
  unfold F_Desk_set_state EF_Desk_set_state
  simp only [q_B_Desk_set_state]
def EB_Desk_shift : ML.Env → SO :=
  (seqF (asgF (slF (op2F (pfldF 0 1 "past") (op1F (cF (.int 1)) negD) ixD) noPF (partF (cF (.int 3)))) (gtupF 3 (gconsF (gnF 4) (gconsF (gnF 5) (gconsF (gnF 6) gnilF)))))
  (seqF (dropF (callF 2 (consF (varF 4) (consF (varF 1) nilF)) F_need_thread))
  (seqF (dropF (callF 2 (consF (varF 4) (consF (varF 2) nilF)) F_need_thread))
  (seqF (ifS (notT (testF (callF 3 (consF (varF 3) (consF (op1F (cF (.int 20)) negD) (consF (cF (.int 20)) nilF))) F_is_from))) neverF nxF)
  (seqF (setM (listM (consF (varF 5) nilF)) 7)
  (seqF (setIF 7 (op2F (ixPF 7 (varF 1)) (varF 3) addD) (varF 1))
  (seqF (setIF 7 (op2F (ixPF 7 (varF 2)) (varF 3) subD) (varF 2))
  (seqF (ifS (orT (testF (op2F (cbF (consF (varF 7) nilF) maxTD) (cF (.int 20)) (cmpD fun i j => decide (j < i)))) (testF (op2F (cbF (consF (varF 7) nilF) minTD) (op1F (cF (.int 20)) negD) (cmpD fun i j => decide (i < j))))) neverF nxF)
  (dropF (methMF 3 0 1 "set_state" (consF (varF 4) (consF (cbF (consF (varF 7) nilF) tupleD) (consF (varF 6) nilF))) EF_Desk_set_state))))))))))
theorem q_B_Desk_shift : B_Desk_shift = EB_Desk_shift := by
  unfold B_Desk_shift EB_Desk_shift
  simp only [q_F_Desk_set_state]
def EF_Desk_shift : D → List D → RtM := runM 8 EB_Desk_shift
theorem q_F_Desk_shift : F_Desk_shift = EF_Desk_shift := by
  unfold F_Desk_shift EF_Desk_shift
  simp only [q_B_Desk_shift]
def EB_Desk_put_xBadBoardBadColumnBadRowBadSign : ML.Env → SO :=
  (seqF (dropF (methUF 2 0 1 "need_cell" (consF (varF 1) (consF (varF 2) nilF)) F_Desk_need_cell_xBadColumnBadRow))
  (seqF (ifS (orT (notT (testF (isiF (varF 3) "str"))) (orT (testF (op2F (cbF (consF (varF 3) nilF) (lenA 0 F_Board___len__)) (cF (.int 1)) neD)) (testF (op2F (varF 3) (cF (.str ".<>x")) notInD)))) (raise0F 29) nxF)
  (seqF (asgF (slF (op2F (pfldF 0 1 "past") (op1F (cF (.int 1)) negD) ixD) noPF (partF (cF (.int 3)))) (gtupF 3 (gconsF (gnF 4) (gconsF (gnF 5) (gconsF (gnF 6) gnilF)))))
  (dropF (methMF 3 0 1 "set_state" (consF (callF 4 (consF (varF 4) (consF (varF 1) (consF (varF 2) (consF (varF 3) nilF)))) F_with_cell_xBadBoardBadColumnBadRowBadSign) (consF (varF 5) (consF (varF 6) nilF))) EF_Desk_set_state)))))
theorem q_B_Desk_put_xBadBoardBadColumnBadRowBadSign : B_Desk_put_xBadBoardBadColumnBadRowBadSign = EB_Desk_put_xBadBoardBadColumnBadRowBadSign := by
  unfold B_Desk_put_xBadBoardBadColumnBadRowBadSign EB_Desk_put_xBadBoardBadColumnBadRowBadSign
  simp only [q_F_Desk_set_state]
def EF_Desk_put_xBadBoardBadColumnBadRowBadSign : D → List D → RtU := runU 7 EB_Desk_put_xBadBoardBadColumnBadRowBadSign
theorem q_F_Desk_put_xBadBoardBadColumnBadRowBadSign : F_Desk_put_xBadBoardBadColumnBadRowBadSign = EF_Desk_put_xBadBoardBadColumnBadRowBadSign := by
  unfold F_Desk_put_xBadBoardBadColumnBadRowBadSign EF_Desk_put_xBadBoardBadColumnBadRowBadSign
  simp only [q_B_Desk_put_xBadBoardBadColumnBadRowBadSign]
def EB_Desk_strengthen_xBadColumnBadNumberBadRow : ML.Env → SO :=
  (seqF (dropF (methUF 2 0 1 "need_cell" (consF (varF 1) (consF (varF 2) nilF)) F_Desk_need_cell_xBadColumnBadRow))
  (seqF (ifS (notT (testF (callF 3 (consF (varF 3) (consF (cF (.int 0)) (consF (cF (.int 9)) nilF))) F_is_from))) (raise0F 22) nxF)
  (seqF (asgF (slF (op2F (pfldF 0 1 "past") (op1F (cF (.int 1)) negD) ixD) noPF (partF (cF (.int 3)))) (gtupF 3 (gconsF (gnF 4) (gconsF (gnF 5) (gconsF (gnF 6) gnilF)))))
  (seqF (asgF (op2F (op2F (slF (op2F (varF 6) (varF 1) ixD) noPF (partF (varF 2))) (tupF (consF (varF 3) nilF)) addD) (slF (op2F (varF 6) (varF 1) ixD) (partF (op2F (varF 2) (cF (.int 1)) addD)) noPF) addD) (gnF 7))
  (dropF (methMF 3 0 1 "set_state" (consF (varF 4) (consF (varF 5) (consF (op2F (op2F (slF (varF 6) noPF (partF (varF 1))) (tupF (consF (varF 7) nilF)) addD) (slF (varF 6) (partF (op2F (varF 1) (cF (.int 1)) addD)) noPF) addD) nilF))) EF_Desk_set_state))))))
theorem q_B_Desk_strengthen_xBadColumnBadNumberBadRow : B_Desk_strengthen_xBadColumnBadNumberBadRow = EB_Desk_strengthen_xBadColumnBadNumberBadRow := by
  unfold B_Desk_strengthen_xBadColumnBadNumberBadRow EB_Desk_strengthen_xBadColumnBadNumberBadRow
  simp only [q_F_Desk_set_state]
def EF_Desk_strengthen_xBadColumnBadNumberBadRow : D → List D → RtU := runU 8 EB_Desk_strengthen_xBadColumnBadNumberBadRow
theorem q_F_Desk_strengthen_xBadColumnBadNumberBadRow : F_Desk_strengthen_xBadColumnBadNumberBadRow = EF_Desk_strengthen_xBadColumnBadNumberBadRow := by
  unfold F_Desk_strengthen_xBadColumnBadNumberBadRow EF_Desk_strengthen_xBadColumnBadNumberBadRow
  simp only [q_B_Desk_strengthen_xBadColumnBadNumberBadRow]
def EB_Desk_shift_xBadNumberBadThreadTooHeavy : ML.Env → SO :=
  (seqF (asgF (slF (op2F (pfldF 0 1 "past") (op1F (cF (.int 1)) negD) ixD) noPF (partF (cF (.int 3)))) (gtupF 3 (gconsF (gnF 4) (gconsF (gnF 5) (gconsF (gnF 6) gnilF)))))
  (seqF (dropF (callF 2 (consF (varF 4) (consF (varF 1) nilF)) F_need_thread_xBadThread))
  (seqF (dropF (callF 2 (consF (varF 4) (consF (varF 2) nilF)) F_need_thread_xBadThread))
  (seqF (ifS (notT (testF (callF 3 (consF (varF 3) (consF (op1F (cF (.int 20)) negD) (consF (cF (.int 20)) nilF))) F_is_from))) (raise0F 22) nxF)
  (seqF (setM (listM (consF (varF 5) nilF)) 7)
  (seqF (setIF 7 (op2F (ixPF 7 (varF 1)) (varF 3) addD) (varF 1))
  (seqF (setIF 7 (op2F (ixPF 7 (varF 2)) (varF 3) subD) (varF 2))
  (seqF (ifS (orT (testF (op2F (cbF (consF (varF 7) nilF) maxTD) (cF (.int 20)) (cmpD fun i j => decide (j < i)))) (testF (op2F (cbF (consF (varF 7) nilF) minTD) (op1F (cF (.int 20)) negD) (cmpD fun i j => decide (i < j))))) (raise0F 40) nxF)
  (dropF (methMF 3 0 1 "set_state" (consF (varF 4) (consF (cbF (consF (varF 7) nilF) tupleD) (consF (varF 6) nilF))) EF_Desk_set_state))))))))))
theorem q_B_Desk_shift_xBadNumberBadThreadTooHeavy : B_Desk_shift_xBadNumberBadThreadTooHeavy = EB_Desk_shift_xBadNumberBadThreadTooHeavy := by
  unfold B_Desk_shift_xBadNumberBadThreadTooHeavy EB_Desk_shift_xBadNumberBadThreadTooHeavy
  simp only [q_F_Desk_set_state]
def EF_Desk_shift_xBadNumberBadThreadTooHeavy : D → List D → RtU := runU 8 EB_Desk_shift_xBadNumberBadThreadTooHeavy
theorem q_F_Desk_shift_xBadNumberBadThreadTooHeavy : F_Desk_shift_xBadNumberBadThreadTooHeavy = EF_Desk_shift_xBadNumberBadThreadTooHeavy := by
  unfold F_Desk_shift_xBadNumberBadThreadTooHeavy EF_Desk_shift_xBadNumberBadThreadTooHeavy
  simp only [q_B_Desk_shift_xBadNumberBadThreadTooHeavy]
def EB__law_deed : ML.Env → SO :=
  (seqF (tryF [2, 8, 22, 27, 29, 32, 40] [⟨fun n => xsub n 0, some 3, (seqF (asgF (op2F (ifE (testF (xisF [2, 8, 22, 27, 29, 32, 40] 3 (fun n => xsub n 27))) (frzF (lstM (consF (cF (.str "row")) nilF))) (frzF (lstM nilF))) (ifE (testF (xisF [2, 8, 22, 27, 29, 32, 40] 3 (fun n => xsub n 8))) (frzF (lstM (consF (cF (.str "column")) nilF))) (frzF (lstM nilF))) addD) (gnF 4))
  (seqF (asgF (op2F (varF 4) (ifE (testF (xisF [2, 8, 22, 27, 29, 32, 40] 3 (fun n => xsub n 29))) (frzF (lstM (consF (cF (.str "sign")) nilF))) (frzF (lstM nilF))) addD) (gnF 4))
  (seqF (asgF (op2F (varF 4) (ifE (testF (xisF [2, 8, 22, 27, 29, 32, 40] 3 (fun n => xsub n 32))) (frzF (lstM (consF (cF (.str "thread")) nilF))) (frzF (lstM nilF))) addD) (gnF 4))
  (seqF (asgF (op2F (varF 4) (ifE (testF (xisF [2, 8, 22, 27, 29, 32, 40] 3 (fun n => xsub n 22))) (frzF (lstM (consF (cF (.str "number")) nilF))) (frzF (lstM nilF))) addD) (gnF 4))
  (retF (op2F (varF 4) (ifE (testF (xisF [2, 8, 22, 27, 29, 32, 40] 3 (fun n => xsub n 40))) (frzF (lstM (consF (cF (.str "heavy")) nilF))) (frzF (lstM nilF))) addD))))))⟩] (ifS (testF (op2F (varF 1) (cF (.int 0)) eqD)) (dropF (methUF 3 0 1 "put" (consF (op2F (varF 2) (cF (.int 0)) ixD) (consF (op2F (varF 2) (cF (.int 1)) ixD) (consF (op2F (varF 2) (cF (.int 2)) ixD) nilF))) EF_Desk_put_xBadBoardBadColumnBadRowBadSign)) (ifS (testF (op2F (varF 1) (cF (.int 1)) eqD)) (dropF (methUF 3 0 1 "strengthen" (consF (op2F (varF 2) (cF (.int 0)) ixD) (consF (op2F (varF 2) (cF (.int 1)) ixD) (consF (op2F (varF 2) (cF (.int 2)) ixD) nilF))) EF_Desk_strengthen_xBadColumnBadNumberBadRow)) (dropF (methUF 3 0 1 "shift" (consF (op2F (varF 2) (cF (.int 0)) ixD) (consF (op2F (varF 2) (cF (.int 1)) ixD) (consF (op2F (varF 2) (cF (.int 2)) ixD) nilF))) EF_Desk_shift_xBadNumberBadThreadTooHeavy)))))
  (retF (frzF (lstM (consF (cF (.str "good")) nilF)))))
theorem q_B__law_deed : B__law_deed = EB__law_deed := by
  unfold B__law_deed EB__law_deed
  simp only [q_F_Desk_put_xBadBoardBadColumnBadRowBadSign, q_F_Desk_strengthen_xBadColumnBadNumberBadRow, q_F_Desk_shift_xBadNumberBadThreadTooHeavy]
def EF__law_deed : D → List D → RtM := runM 5 EB__law_deed
theorem q_F__law_deed : F__law_deed = EF__law_deed := by
  unfold F__law_deed EF__law_deed
  simp only [q_B__law_deed]
def bd80 : D := .obj 0 ["table"] [.tup [.str "><", .str "x.", .str ".."]]
def w80 : D := .tup [.tup [.int 1, .int 1], .tup [.int 1, .int 1], .tup [.int 1, .int 1]]
def st80 : D := .tup [.int 1, .int 1, .int 1, .int 1]
def d80a : D := .obj 1 ["past", "undone"] [.tup [.tup [bd80, .tup [.int 0, .int 0, .int 0, .int 0, .int 0], w80, st80]], .tup []]
def desk0 : D := .obj 1 ["past", "undone"] [.tup [.tup [bd80, .tup [.int 0, .int 0, .int 0, .int 0, .int 0], w80, st80], .tup [bd80, .tup [.int 20, .int 0, .int 0, .int 0, .int (-20)], w80, st80]], .tup []]
theorem init80 : F_Desk___init__ (.obj 1 [] []) [bd80] = .ret .non d80a := by rw [q_F_Desk___init__]; kernel_rfl
theorem shift80 : F_Desk_shift d80a [.int 0, .int 4, .int 20] = .ret .non desk0 := by rw [q_F_Desk_shift]; kernel_rfl
def ends80 : D := .dk ((["row", "column", "strong", "thread", "other", "number"] : List Str).map fun x => Sum.inr x) [.int 3, .int 2, .int 10, .int 5, .int 5, .int 21]
def good80 : D := .dk ((["row", "column", "sign", "strong", "thread", "other", "number"] : List Str).map fun x => Sum.inr x) [.int 2, .int 1, .str "x", .int 9, .int 1, .int 3, .int (-20)]
def words80 : D := .dk ((["strong", "other"] : List Str).map fun x => Sum.inr x) [.str "number", .str "thread"]
inductive Nm where
  | row | column | sign | strong | thread | other | number
def Nm.s : Nm → Str
  | .row => "row" | .column => "column" | .sign => "sign" | .strong => "strong" | .thread => "thread" | .other => "other" | .number => "number"
def Nm.good : Nm → D
  | .row => .int 2 | .column => .int 1 | .sign => .str "x" | .strong => .int 9 | .thread => .int 1 | .other => .int 3 | .number => .int (-20)
def Nm.word : Nm → Str
  | .row => "row" | .column => "column" | .sign => "sign" | .strong => "number" | .thread => "thread" | .other => "thread" | .number => "number"
def bs80 (l e : D) : List D := [.non, .bl true, .str "1", .tup [.int 1], .lst [.int 1], l, e]
def Nm.bad : Nm → List D
  | .row => bs80 (.int (-1)) (.int 3) | .column => bs80 (.int (-1)) (.int 2) | .strong => bs80 (.int (-1)) (.int 10) | .thread => bs80 (.int (-1)) (.int 5) | .other => bs80 (.int (-1)) (.int 5) | .number => bs80 (.int (-21)) (.int 21)
  | .sign => [.non, .str "", .str "xx", .str "y", .int 0, .tup [.str "."], .lst [], .str "<>"]
def kinds80 : Nat → List Nm
  | 0 => [.row, .column, .sign]
  | 1 => [.row, .column, .strong]
  | _ => [.thread, .other, .number]
def past80 (l : D) : D := .obj 1 ["past", "undone"] [.tup [.tup [bd80, .tup [.int 0, .int 0, .int 0, .int 0, .int 0], w80, st80], .tup [bd80, .tup [.int 20, .int 0, .int 0, .int 0, .int (-20)], w80, st80], l], .tup []]
def dg80 : Nat → D
  | 0 => past80 (.tup [.obj 0 ["table"] [.tup [.str "><", .str "x.", .str ".x"]], .tup [.int 20, .int 0, .int 0, .int 0, .int (-20)], w80, .tup [.int 1, .int 1, .int 1, .int 1, .int 1, .int 1]])
  | 1 => past80 (.tup [bd80, .tup [.int 20, .int 0, .int 0, .int 0, .int (-20)], .tup [.tup [.int 1, .int 1], .tup [.int 1, .int 1], .tup [.int 1, .int 9]], st80])
  | _ => past80 (.tup [bd80, .tup [.int 20, .int (-20), .int 0, .int 20, .int (-20)], w80, st80])
def DeedIs (k : Nat) (ts : List D) (w : Str) (d : D) : Prop := F__law_deed desk0 [nD k, .lst ts] = .ret (.lst [.str w]) d
theorem bad0_1 (x y z : D) (h : x ∈ Nm.row.bad) : DeedIs 0 [x, y, z] Nm.row.word desk0 := by
  rcases (by simpa only [Nm.bad, bs80, List.mem_cons, List.not_mem_nil, or_false] using h) with rfl|rfl|rfl|rfl|rfl|rfl|rfl <;> (unfold DeedIs; rw [q_F__law_deed]; kernel_rfl)
theorem bad0_2 (y z : D) (h : y ∈ Nm.column.bad) : DeedIs 0 [Nm.row.good, y, z] Nm.column.word desk0 := by
  rcases (by simpa only [Nm.bad, bs80, List.mem_cons, List.not_mem_nil, or_false] using h) with rfl|rfl|rfl|rfl|rfl|rfl|rfl <;> (unfold DeedIs; rw [q_F__law_deed]; kernel_rfl)
theorem bad0_3 (z : D) (h : z ∈ Nm.sign.bad) : DeedIs 0 [Nm.row.good, Nm.column.good, z] Nm.sign.word desk0 := by
  rcases (by simpa only [Nm.bad, bs80, List.mem_cons, List.not_mem_nil, or_false] using h) with rfl|rfl|rfl|rfl|rfl|rfl|rfl|rfl <;> (unfold DeedIs; rw [q_F__law_deed]; kernel_rfl)
theorem bad1_1 (x y z : D) (h : x ∈ Nm.row.bad) : DeedIs 1 [x, y, z] Nm.row.word desk0 := by
  rcases (by simpa only [Nm.bad, bs80, List.mem_cons, List.not_mem_nil, or_false] using h) with rfl|rfl|rfl|rfl|rfl|rfl|rfl <;> (unfold DeedIs; rw [q_F__law_deed]; kernel_rfl)
theorem bad1_2 (y z : D) (h : y ∈ Nm.column.bad) : DeedIs 1 [Nm.row.good, y, z] Nm.column.word desk0 := by
  rcases (by simpa only [Nm.bad, bs80, List.mem_cons, List.not_mem_nil, or_false] using h) with rfl|rfl|rfl|rfl|rfl|rfl|rfl <;> (unfold DeedIs; rw [q_F__law_deed]; kernel_rfl)
theorem bad1_3 (z : D) (h : z ∈ Nm.strong.bad) : DeedIs 1 [Nm.row.good, Nm.column.good, z] Nm.strong.word desk0 := by
  rcases (by simpa only [Nm.bad, bs80, List.mem_cons, List.not_mem_nil, or_false] using h) with rfl|rfl|rfl|rfl|rfl|rfl|rfl <;> (unfold DeedIs; rw [q_F__law_deed]; kernel_rfl)
theorem bad2_1 (x y z : D) (h : x ∈ Nm.thread.bad) : DeedIs 2 [x, y, z] Nm.thread.word desk0 := by
  rcases (by simpa only [Nm.bad, bs80, List.mem_cons, List.not_mem_nil, or_false] using h) with rfl|rfl|rfl|rfl|rfl|rfl|rfl <;> (unfold DeedIs; rw [q_F__law_deed]; kernel_rfl)
theorem bad2_2 (y z : D) (h : y ∈ Nm.other.bad) : DeedIs 2 [Nm.thread.good, y, z] Nm.other.word desk0 := by
  rcases (by simpa only [Nm.bad, bs80, List.mem_cons, List.not_mem_nil, or_false] using h) with rfl|rfl|rfl|rfl|rfl|rfl|rfl <;> (unfold DeedIs; rw [q_F__law_deed]; kernel_rfl)
theorem bad2_3 (z : D) (h : z ∈ Nm.number.bad) : DeedIs 2 [Nm.thread.good, Nm.other.good, z] Nm.number.word desk0 := by
  rcases (by simpa only [Nm.bad, bs80, List.mem_cons, List.not_mem_nil, or_false] using h) with rfl|rfl|rfl|rfl|rfl|rfl|rfl <;> (unfold DeedIs; rw [q_F__law_deed]; kernel_rfl)
theorem good0 : DeedIs 0 [Nm.row.good, Nm.column.good, Nm.sign.good] "good" (dg80 0) := by unfold DeedIs; rw [q_F__law_deed]; kernel_rfl
theorem good1 : DeedIs 1 [Nm.row.good, Nm.column.good, Nm.strong.good] "good" (dg80 1) := by unfold DeedIs; rw [q_F__law_deed]; kernel_rfl
theorem good2 : DeedIs 2 [Nm.thread.good, Nm.other.good, Nm.number.good] "good" (dg80 2) := by unfold DeedIs; rw [q_F__law_deed]; kernel_rfl
def heavy80 : List (List D) := [[.int 0, .int 1, .int 1], [.int 4, .int 1, .int (-1)], [.int 1, .int 0, .int (-20)], [.int 0, .int 4, .int 1]]
theorem heavy_is (ts : List D) (h : ts ∈ heavy80) : DeedIs 2 ts "heavy" desk0 := by
  rcases (by simpa only [heavy80, List.mem_cons, List.not_mem_nil, or_false] using h) with rfl | rfl | rfl | rfl <;> (unfold DeedIs; rw [q_F__law_deed]; kernel_rfl)
def odd80 : List D := [.non, .tup [.str "><"], .str "x", .int 3, .dk [] [], .lst [.tup [.str "x"]]]
theorem made80 (x : D) (h : x ∈ odd80) : F__law_made [x] = .ret (.bl true) := by
  rcases (by simpa only [odd80, List.mem_cons, List.not_mem_nil, or_false] using h) with rfl | rfl | rfl | rfl | rfl | rfl <;> kernel_rfl
def Nm.bad0 : Nm → List D
  | .sign => bs80 (.int (-1)) (.str "")
  | n => n.bad
theorem bad_len80 (n : Nm) : n.bad.length = 7 ∨ n.bad.length = 8 := by cases n <;> decide
theorem three80 {v : Nat} (hv : v < 3) : ∃ b, eqD (nD v) (.int 0) = some (.bl b) := by
  rcases (by omega : v = 0 ∨ v = 1 ∨ v = 2) with rfl | rfl | rfl
  · exact ⟨true, by kernel_rfl⟩
  · exact ⟨false, by kernel_rfl⟩
  · exact ⟨false, by kernel_rfl⟩
theorem dget_good80 (n : Nm) (ε : ML.Env) : dgetD good80 (.str n.s) = some n.good := by cases n <;> kernel_rfl
theorem dget_word80 (n : Nm) : dget2E words80 (.str n.s) (.str n.s) = some (.str n.word) := by cases n <;> kernel_rfl
theorem dget_wordX (n : Nm) : dget2E (.dk [Sum.inr (Str.ofString "strong"), Sum.inr (Str.ofString "other")] [.str (Str.ofString "number"), .str (Str.ofString "thread")]) (.str n.s) (.str n.s) = some (.str n.word) := dget_word80 n
theorem dget_goodX (n : Nm) : dgetD (.dk [Sum.inr (Str.ofString "row"), Sum.inr (Str.ofString "column"), Sum.inr (Str.ofString "sign"), Sum.inr (Str.ofString "strong"), Sum.inr (Str.ofString "thread"), Sum.inr (Str.ofString "other"), Sum.inr (Str.ofString "number")] [.int 2, .int 1, .str (Str.ofString "x"), .int 9, .int 1, .int 3, .int (-20)]) (.str n.s) = some n.good := dget_good80 n []
theorem it80 (n : Nm) (s0 s2 s3 s6 s11 s12 s13 s14 : Sl) {d : D} (hd : RowOk d) (ts due : List D) (h1 : ts.length ≤ 10) (h2 : due.length ≤ 10) :
    ∃ (x : D) (w : List D) (d' : D), RowOk d' ∧ ((x = n.good ∧ w = []) ∨ (x ∈ n.bad ∧ w = [.str n.word])) ∧ ∃ a b, B_law_L1 [s0, .ow d, s2, s3, .ow (.lst ts), .fz (.lst due), s6, .fz good80, .fz ends80, .fz words80, .fz (.str n.s), s11, s12, s13, s14] =
      .nx [s0, .ow d', s2, s3, .ow (.lst (ts ++ [x])), .fz (.lst (due ++ w)), s6, .fz good80, .fz ends80, .fz words80, .fz (.str n.s), a, b, s13, s14] := by
  obtain ⟨v, d1, t1, hv, hd1⟩ := F_taken_lit hd 3 (by decide) (by decide) (i := 3) rfl
  obtain ⟨b, hb⟩ := three80 hv
  cases b with
  | true =>
    have hl : 0 < n.bad.length ∧ n.bad.length < 1000000 := by rcases bad_len80 n with h | h <;> omega
    obtain ⟨k, d2, t2, hk, hd2⟩ := F_taken_nat hd1 (m := n.bad.length) hl.1 hl.2
    have t2' : F__law_taken d1 [.int (n.bad.length : Int)] = .ret (nD k) d2 := t2
    refine ⟨n.bad[k], [.str n.word], d2, hd2, .inr ⟨List.getElem_mem hk, rfl⟩, .fz (.lst n.bad), .fz (.bl true), ?_⟩
    refine (seqF_nx (ε' := [s0, .ow d, s2, s3, .ow (.lst ts), .fz (.lst due), s6, .fz good80, .fz ends80, .fz words80, .fz (.str n.s), .fz (.lst n.bad0), s12, s13, s14]) (by cases n <;> kernel_rfl)).trans ?_
    refine (seqF_nx (ε' := [s0, .ow d, s2, s3, .ow (.lst ts), .fz (.lst due), s6, .fz good80, .fz ends80, .fz words80, .fz (.str n.s), .fz (.lst n.bad), s12, s13, s14]) (by cases n <;> kernel_rfl)).trans ?_
    refine (seqF_nx (ε' := [s0, .ow d1, s2, s3, .ow (.lst ts), .fz (.lst due), s6, .fz good80, .fz ends80, .fz words80, .fz (.str n.s), .fz (.lst n.bad), .fz (.bl true), s13, s14]) (by simp -implicitDefEqProofs only [runF, runX, runM, envOf, envM, List.map_cons, List.map_nil, List.length_cons, List.length_nil, List.cons_append, List.nil_append, List.replicate, List.getElem?_cons_succ, List.getElem?_cons_zero, List.set_cons_succ, List.set_cons_zero, if_true, Bool.false_eq_true, if_false, Nat.reduceAdd, Nat.reduceSub, Nat.zero_add, Nat.zero_le, Bool.not_true, Bool.not_false, Option.some.injEq, Option.bind_some, Nat.reduceLeDiff, rul_all, t1, hb])).trans ?_
    refine (seqF_nx (ε' := [s0, .ow d2, s2, s3, .ow (.lst (ts ++ [n.bad[k]])), .fz (.lst due), s6, .fz good80, .fz ends80, .fz words80, .fz (.str n.s), .fz (.lst n.bad), .fz (.bl true), s13, s14]) ?_).trans ?_
    · simp -implicitDefEqProofs only [runF, runX, runM, envOf, envM, List.map_cons, List.map_nil, List.length_cons, List.length_nil, List.cons_append, List.nil_append, List.replicate, List.getElem?_cons_succ, List.getElem?_cons_zero, List.set_cons_succ, List.set_cons_zero, if_true, Bool.false_eq_true, if_false, Nat.reduceAdd, Nat.reduceSub, Nat.zero_add, Nat.zero_le, Bool.not_true, Bool.not_false, Option.some.injEq, Option.bind_some, Nat.reduceLeDiff, rul_all, t2', ix_lst hk, (by omega : ts.length < 100000)]
    · simp -implicitDefEqProofs only [runF, runX, runM, envOf, envM, List.map_cons, List.map_nil, List.length_cons, List.length_nil, List.cons_append, List.nil_append, List.replicate, List.getElem?_cons_succ, List.getElem?_cons_zero, List.set_cons_succ, List.set_cons_zero, if_true, Bool.false_eq_true, if_false, Nat.reduceAdd, Nat.reduceSub, Nat.zero_add, Nat.zero_le, Bool.not_true, Bool.not_false, Option.some.injEq, Option.bind_some, Nat.reduceLeDiff, rul_all, dget_wordX, words80, List.map_cons, List.map_nil, add_ords (A := due) (B := [.str n.word]) (by simp; omega)]
  | false =>
    refine ⟨n.good, [], d1, hd1, .inl ⟨rfl, rfl⟩, .fz (.lst n.bad), .fz (.bl false), ?_⟩
    refine (seqF_nx (ε' := [s0, .ow d, s2, s3, .ow (.lst ts), .fz (.lst due), s6, .fz good80, .fz ends80, .fz words80, .fz (.str n.s), .fz (.lst n.bad0), s12, s13, s14]) (by cases n <;> kernel_rfl)).trans ?_
    refine (seqF_nx (ε' := [s0, .ow d, s2, s3, .ow (.lst ts), .fz (.lst due), s6, .fz good80, .fz ends80, .fz words80, .fz (.str n.s), .fz (.lst n.bad), s12, s13, s14]) (by cases n <;> kernel_rfl)).trans ?_
    refine (seqF_nx (ε' := [s0, .ow d1, s2, s3, .ow (.lst ts), .fz (.lst due), s6, .fz good80, .fz ends80, .fz words80, .fz (.str n.s), .fz (.lst n.bad), .fz (.bl false), s13, s14]) (by simp -implicitDefEqProofs only [runF, runX, runM, envOf, envM, List.map_cons, List.map_nil, List.length_cons, List.length_nil, List.cons_append, List.nil_append, List.replicate, List.getElem?_cons_succ, List.getElem?_cons_zero, List.set_cons_succ, List.set_cons_zero, if_true, Bool.false_eq_true, if_false, Nat.reduceAdd, Nat.reduceSub, Nat.zero_add, Nat.zero_le, Bool.not_true, Bool.not_false, Option.some.injEq, Option.bind_some, Nat.reduceLeDiff, rul_all, t1, hb])).trans ?_
    refine (seqF_nx (ε' := [s0, .ow d1, s2, s3, .ow (.lst (ts ++ [n.good])), .fz (.lst due), s6, .fz good80, .fz ends80, .fz words80, .fz (.str n.s), .fz (.lst n.bad), .fz (.bl false), s13, s14]) ?_).trans ?_
    · simp -implicitDefEqProofs only [runF, runX, runM, envOf, envM, List.map_cons, List.map_nil, List.length_cons, List.length_nil, List.cons_append, List.nil_append, List.replicate, List.getElem?_cons_succ, List.getElem?_cons_zero, List.set_cons_succ, List.set_cons_zero, if_true, Bool.false_eq_true, if_false, Nat.reduceAdd, Nat.reduceSub, Nat.zero_add, Nat.zero_le, Bool.not_true, Bool.not_false, Option.some.injEq, Option.bind_some, Nat.reduceLeDiff, rul_all, dget_goodX, good80, List.map_cons, List.map_nil, (by omega : ts.length < 100000)]
    · simp -implicitDefEqProofs only [runF, runX, runM, envOf, envM, List.map_cons, List.map_nil, List.length_cons, List.length_nil, List.cons_append, List.nil_append, List.replicate, List.getElem?_cons_succ, List.getElem?_cons_zero, List.set_cons_succ, List.set_cons_zero, if_true, Bool.false_eq_true, if_false, Nat.reduceAdd, Nat.reduceSub, Nat.zero_add, Nat.zero_le, Bool.not_true, Bool.not_false, Option.some.injEq, Option.bind_some, Nat.reduceLeDiff, rul_all, add_ords (A := due) (B := []) (by simp; omega)]
def names80 (k : Nat) : List D := (kinds80 k).map fun n => .str n.s
def bf80 : D := .lst [.tup [.str "><", .str "x.", .str ".."], .tup [.int 20, .int 0, .int 0, .int 0, .int (-20)], st80, .int 1]
inductive Drawn (k : Nat) (T due : List D) : Prop
  | bad (w : Str) (r : List D) (h : due = .str w :: r) (hl : r.length ≤ 5) (hd : DeedIs k T w desk0) (hok : okPy (.lst due) = true) (hw : neD (.lst [.str w]) (.lst [.str w]) = some (.bl false))
  | good (h : due = []) (hk : k < 3) (hd : DeedIs k T "good" (dg80 k))
theorem ne_word80 (n : Nm) : neD (.lst [.str n.word]) (.lst [.str n.word]) = some (.bl false) := by cases n <;> kernel_rfl
theorem drawn80 {k : Nat} (hk : k < 3) {n1 n2 n3 : Nm} (hn : kinds80 k = [n1, n2, n3]) {x1 x2 x3 : D} {w1 w2 w3 : List D} (h1 : (x1 = n1.good ∧ w1 = []) ∨ (x1 ∈ n1.bad ∧ w1 = [.str n1.word]))
    (h2 : (x2 = n2.good ∧ w2 = []) ∨ (x2 ∈ n2.bad ∧ w2 = [.str n2.word])) (h3 : (x3 = n3.good ∧ w3 = []) ∨ (x3 ∈ n3.bad ∧ w3 = [.str n3.word])) : Drawn k [x1, x2, x3] (w1 ++ w2 ++ w3) := by
  have l2 : w2.length ≤ 1 := by rcases h2 with ⟨-, rfl⟩ | ⟨-, rfl⟩ <;> simp
  have l3 : w3.length ≤ 1 := by rcases h3 with ⟨-, rfl⟩ | ⟨-, rfl⟩ <;> simp
  rcases (by omega : k = 0 ∨ k = 1 ∨ k = 2) with rfl | rfl | rfl
  all_goals (injection hn with a1 hn; injection hn with a2 hn; injection hn with a3 hn; subst a1 a2 a3)
  · rcases h1 with ⟨rfl, rfl⟩ | ⟨h1, rfl⟩
    · rcases h2 with ⟨rfl, rfl⟩ | ⟨h2, rfl⟩
      · rcases h3 with ⟨rfl, rfl⟩ | ⟨h3, rfl⟩
        · exact .good rfl (by decide) good0
        · exact .bad _ [] rfl (by simp) (bad0_3 _ h3) (by kernel_rfl) (ne_word80 _)
      · exact .bad _ w3 (by simp) (by omega) (bad0_2 _ _ h2) (by rcases h3 with ⟨-, rfl⟩ | ⟨-, rfl⟩ <;> kernel_rfl) (ne_word80 _)
    · exact .bad _ (w2 ++ w3) (by simp) (by simp; omega) (bad0_1 _ _ _ h1) (by rcases h2 with ⟨-, rfl⟩ | ⟨-, rfl⟩ <;> rcases h3 with ⟨-, rfl⟩ | ⟨-, rfl⟩ <;> kernel_rfl) (ne_word80 _)
  · rcases h1 with ⟨rfl, rfl⟩ | ⟨h1, rfl⟩
    · rcases h2 with ⟨rfl, rfl⟩ | ⟨h2, rfl⟩
      · rcases h3 with ⟨rfl, rfl⟩ | ⟨h3, rfl⟩
        · exact .good rfl (by decide) good1
        · exact .bad _ [] rfl (by simp) (bad1_3 _ h3) (by kernel_rfl) (ne_word80 _)
      · exact .bad _ w3 (by simp) (by omega) (bad1_2 _ _ h2) (by rcases h3 with ⟨-, rfl⟩ | ⟨-, rfl⟩ <;> kernel_rfl) (ne_word80 _)
    · exact .bad _ (w2 ++ w3) (by simp) (by simp; omega) (bad1_1 _ _ _ h1) (by rcases h2 with ⟨-, rfl⟩ | ⟨-, rfl⟩ <;> rcases h3 with ⟨-, rfl⟩ | ⟨-, rfl⟩ <;> kernel_rfl) (ne_word80 _)
  · rcases h1 with ⟨rfl, rfl⟩ | ⟨h1, rfl⟩
    · rcases h2 with ⟨rfl, rfl⟩ | ⟨h2, rfl⟩
      · rcases h3 with ⟨rfl, rfl⟩ | ⟨h3, rfl⟩
        · exact .good rfl (by decide) good2
        · exact .bad _ [] rfl (by simp) (bad2_3 _ h3) (by kernel_rfl) (ne_word80 _)
      · exact .bad _ w3 (by simp) (by omega) (bad2_2 _ _ h2) (by rcases h3 with ⟨-, rfl⟩ | ⟨-, rfl⟩ <;> kernel_rfl) (ne_word80 _)
    · exact .bad _ (w2 ++ w3) (by simp) (by simp; omega) (bad2_1 _ _ _ h1) (by rcases h2 with ⟨-, rfl⟩ | ⟨-, rfl⟩ <;> rcases h3 with ⟨-, rfl⟩ | ⟨-, rfl⟩ <;> kernel_rfl) (ne_word80 _)
def TSl (T : List D) (s : Sl) : Prop := s = .ow (.lst T) ∨ s = .fz (.lst T)
theorem two80 {m v : Nat} (hv : v < m) (hm : m ≤ 4) : ∃ b, eqD (nD v) (.int 0) = some (.bl b) := by
  rcases (by omega : v = 0 ∨ v = 1 ∨ v = 2 ∨ v = 3) with rfl | rfl | rfl | rfl
  · exact ⟨true, by kernel_rfl⟩
  · exact ⟨false, by kernel_rfl⟩
  · exact ⟨false, by kernel_rfl⟩
  · exact ⟨false, by kernel_rfl⟩
theorem law_true (ns : List Int) (hl : ns.length ≤ 63) : F_law [.scr ns] = .ret (.bl true) := by
  have hd0 : RowOk (.lst [.scr ns, .int 0, .int 1480, .int 0]) := ⟨ns, 0, 1480, 0, rfl, by decide⟩
  obtain ⟨k, d1, t1, hk, hd1⟩ := F_taken_lit hd0 3 (by decide) (by decide) (i := 3) rfl
  have hb : F_Board___init__ (.obj 0 [] []) [.tup [.str "><", .str "x.", .str ".."]] = .ret .non bd80 := by kernel_rfl
  show (B_law _).fin = _
  refine (congrArg SO.fin ((seqF_nx (ε' := [.fz (.scr ns), .ow (.lst [.scr ns, .int 0, .int 1480, .int 0]), .no, .no, .no, .no, .no, .no, .no, .no, .no, .no, .no, .no, .no]) (by simp -implicitDefEqProofs only [runF, runX, runM, envOf, envM, List.map_cons, List.map_nil, List.length_cons, List.length_nil, List.cons_append, List.nil_append, List.replicate, List.getElem?_cons_succ, List.getElem?_cons_zero, List.set_cons_succ, List.set_cons_zero, if_true, Bool.false_eq_true, if_false, Nat.reduceAdd, Nat.reduceSub, Nat.zero_add, Nat.zero_le, Bool.not_true, Bool.not_false, Option.some.injEq, Option.bind_some, Nat.reduceLeDiff, rul_all])).trans
    ((seqF_nx (ε' := [.fz (.scr ns), .ow (.lst [.scr ns, .int 0, .int 1480, .int 0]), .ow d80a, .no, .no, .no, .no, .no, .no, .no, .no, .no, .no, .no, .no]) (by simp -implicitDefEqProofs only [runF, runX, runM, envOf, envM, List.map_cons, List.map_nil, List.length_cons, List.length_nil, List.cons_append, List.nil_append, List.replicate, List.getElem?_cons_succ, List.getElem?_cons_zero, List.set_cons_succ, List.set_cons_zero, if_true, Bool.false_eq_true, if_false, Nat.reduceAdd, Nat.reduceSub, Nat.zero_add, Nat.zero_le, Bool.not_true, Bool.not_false, Option.some.injEq, Option.bind_some, Nat.reduceLeDiff, rul_all, hb, init80])).trans
    ((seqF_nx (ε' := [.fz (.scr ns), .ow (.lst [.scr ns, .int 0, .int 1480, .int 0]), .ow desk0, .no, .no, .no, .no, .no, .no, .no, .no, .no, .no, .no, .no]) (by
      refine dropF_ok (d := .non) ((meth_at (n := 3) (i := 2) (c := 1) (mn := "shift") (fs := ["past", "undone"]) (es := [.int 0, .int 4, .int 20]) (ε1 := [.fz (.scr ns), .ow (.lst [.scr ns, .int 0, .int 1480, .int 0]), .ow d80a, .no, .no, .no, .no, .no, .no, .no, .no, .no, .no, .no, .no]) rfl (by decide) ?_ rfl rfl shift80).trans rfl)
      kernel_rfl)).trans
    ((seqF_nx (ε' := [.fz (.scr ns), .ow d1, .ow desk0, .fz (nD k), .ow (.lst []), .fz (.lst []), .no, .no, .no, .no, .no, .no, .no, .no, .no]) (by simp -implicitDefEqProofs only [runF, runX, runM, envOf, envM, List.map_cons, List.map_nil, List.length_cons, List.length_nil, List.cons_append, List.nil_append, List.replicate, List.getElem?_cons_succ, List.getElem?_cons_zero, List.set_cons_succ, List.set_cons_zero, if_true, Bool.false_eq_true, if_false, Nat.reduceAdd, Nat.reduceSub, Nat.zero_add, Nat.zero_le, Bool.not_true, Bool.not_false, Option.some.injEq, Option.bind_some, Nat.reduceLeDiff, rul_all, t1])).trans
    ((seqF_nx (ε' := [.fz (.scr ns), .ow d1, .ow desk0, .fz (nD k), .ow (.lst []), .fz (.lst []), .fz (.lst (names80 k)), .no, .no, .no, .no, .no, .no, .no, .no]) (by
      rcases (by omega : k = 0 ∨ k = 1 ∨ k = 2) with rfl | rfl | rfl <;> kernel_rfl)).trans
    ((seqF_nx (ε' := [.fz (.scr ns), .ow d1, .ow desk0, .fz (nD k), .ow (.lst []), .fz (.lst []), .fz (.lst (names80 k)), .fz good80, .no, .no, .no, .no, .no, .no, .no]) (by kernel_rfl)).trans
    ((seqF_nx (ε' := [.fz (.scr ns), .ow d1, .ow desk0, .fz (nD k), .ow (.lst []), .fz (.lst []), .fz (.lst (names80 k)), .fz good80, .fz ends80, .no, .no, .no, .no, .no, .no]) (by kernel_rfl)).trans
    ((seqF_nx (ε' := [.fz (.scr ns), .ow d1, .ow desk0, .fz (nD k), .ow (.lst []), .fz (.lst []), .fz (.lst (names80 k)), .fz good80, .fz ends80, .fz words80, .no, .no, .no, .no, .no]) (by kernel_rfl)).trans rfl))))))))).trans ?_
  -- the three arguments
  obtain ⟨n1, n2, n3, hn⟩ : ∃ n1 n2 n3, kinds80 k = [n1, n2, n3] := by
    rcases (by omega : k = 0 ∨ k = 1 ∨ k = 2) with rfl | rfl | rfl <;> exact ⟨_, _, _, rfl⟩
  have hnm : names80 k = [.str n1.s, .str n2.s, .str n3.s] := by unfold names80; rw [hn]; rfl
  obtain ⟨x1, w1, d2, hd2, o1, a1, b1, e1⟩ := it80 n1 (.fz (.scr ns)) (.ow desk0) (.fz (nD k)) (.fz (.lst (names80 k))) .no .no .no .no hd1 [] [] (by simp) (by simp)
  have l1 : w1.length ≤ 1 := by rcases o1 with ⟨-, rfl⟩ | ⟨-, rfl⟩ <;> simp
  obtain ⟨x2, w2, d3, hd3, o2, a2, b2, e2⟩ := it80 n2 (.fz (.scr ns)) (.ow desk0) (.fz (nD k)) (.fz (.lst (names80 k))) a1 b1 .no .no hd2 ([] ++ [x1]) ([] ++ w1) (by simp) (by simp; omega)
  have l2 : w2.length ≤ 1 := by rcases o2 with ⟨-, rfl⟩ | ⟨-, rfl⟩ <;> simp
  obtain ⟨x3, w3, d4, hd4, o3, a3, b3, e3⟩ := it80 n3 (.fz (.scr ns)) (.ow desk0) (.fz (nD k)) (.fz (.lst (names80 k))) a2 b2 .no .no hd3 ([] ++ [x1] ++ [x2]) ([] ++ w1 ++ w2) (by simp) (by simp; omega)
  refine (congrArg SO.fin (seqF_nx (ε' := [.fz (.scr ns), .ow d4, .ow desk0, .fz (nD k), .ow (.lst [x1, x2, x3]), .fz (.lst (w1 ++ w2 ++ w3)), .fz (.lst (names80 k)), .fz good80, .fz ends80, .fz words80, .fz (.str n3.s), a3, b3, .no, .no]) ?_)).trans ?_
  · rw [forS_ok (ds := [.str n1.s, .str n2.s, .str n3.s]) (ε1 := [.fz (.scr ns), .ow d1, .ow desk0, .fz (nD k), .ow (.lst []), .fz (.lst []), .fz (.lst (names80 k)), .fz good80, .fz ends80, .fz words80, .no, .no, .no, .no, .no]) (by rw [hnm]; simp -implicitDefEqProofs only [runF, runX, runM, envOf, envM, List.map_cons, List.map_nil, List.length_cons, List.length_nil, List.cons_append, List.nil_append, List.replicate, List.getElem?_cons_succ, List.getElem?_cons_zero, List.set_cons_succ, List.set_cons_zero, if_true, Bool.false_eq_true, if_false, Nat.reduceAdd, Nat.reduceSub, Nat.zero_add, Nat.zero_le, Bool.not_true, Bool.not_false, Option.some.injEq, Option.bind_some, Nat.reduceLeDiff, rul_all])]
    rw [forF_nx (ε1 := [.fz (.scr ns), .ow d1, .ow desk0, .fz (nD k), .ow (.lst []), .fz (.lst []), .fz (.lst (names80 k)), .fz good80, .fz ends80, .fz words80, .fz (.str n1.s), .no, .no, .no, .no]) rfl e1]
    rw [forF_nx rfl e2]
    rw [forF_nx rfl e3]
    simp only [List.nil_append, List.cons_append]
    rfl
  have D0 := drawn80 hk hn o1 o2 o3
  generalize w1 ++ w2 ++ w3 = due at D0 ⊢
  generalize hT : [x1, x2, x3] = T at D0 ⊢
  -- too heavy, perhaps
  obtain ⟨T', due', d5, s4, D1, hT', hd5, e5⟩ : ∃ T' due' d5 s4, Drawn k T' due' ∧ TSl T' s4 ∧ RowOk d5 ∧ (ifS (andT (testF (op2F (varF 3) (cF (.int 2)) eqD)) (andT (testF (op2F (varF 5) (frzF (lstM nilF)) eqD)) (testF (op2F (callMF 1 1 (consF (cF (.int 2)) nilF) F__law_taken) (cF (.int 0)) eqD)))) (parF 4 5 (fzM (op2F (frzF (lstM (consF (frzF (lstM (consF (cF (.int 0)) (consF (cF (.int 1)) (consF (cF (.int 1)) nilF))))) (consF (frzF (lstM (consF (cF (.int 4)) (consF (cF (.int 1)) (consF (op1F (cF (.int 1)) negD) nilF))))) (consF (frzF (lstM (consF (cF (.int 1)) (consF (cF (.int 0)) (consF (op1F (cF (.int 20)) negD) nilF))))) (consF (frzF (lstM (consF (cF (.int 0)) (consF (cF (.int 4)) (consF (cF (.int 1)) nilF))))) nilF)))))) (callMF 1 1 (consF (cF (.int 4)) nilF) F__law_taken) ixD)) (fzM (frzF (lstM (consF (cF (.str "heavy")) nilF))))) nxF)
      [.fz (.scr ns), .ow d4, .ow desk0, .fz (nD k), .ow (.lst T), .fz (.lst due), .fz (.lst (names80 k)), .fz good80, .fz ends80, .fz words80, .fz (.str n3.s), a3, b3, .no, .no] =
      .nx [.fz (.scr ns), .ow d5, .ow desk0, .fz (nD k), s4, .fz (.lst due'), .fz (.lst (names80 k)), .fz good80, .fz ends80, .fz words80, .fz (.str n3.s), a3, b3, .no, .no] := by
    by_cases k2 : k = 2
    case neg =>
      have : eqD (nD k) (.int 2) = some (.bl false) := by rcases (by omega : k = 0 ∨ k = 1) with rfl | rfl <;> kernel_rfl
      exact ⟨T, due, d4, _, D0, .inl rfl, hd4, by simp -implicitDefEqProofs only [runF, runX, runM, envOf, envM, List.map_cons, List.map_nil, List.length_cons, List.length_nil, List.cons_append, List.nil_append, List.replicate, List.getElem?_cons_succ, List.getElem?_cons_zero, List.set_cons_succ, List.set_cons_zero, if_true, Bool.false_eq_true, if_false, Nat.reduceAdd, Nat.reduceSub, Nat.zero_add, Nat.zero_le, Bool.not_true, Bool.not_false, Option.some.injEq, Option.bind_some, Nat.reduceLeDiff, rul_all, this]⟩
    subst k2
    have k22 : eqD (nD 2) (.int 2) = some (.bl true) := by kernel_rfl
    cases D0 with
    | bad w r h hl hd hok hw =>
      subst h
      have : eqD (.lst (.str w :: r)) (.lst []) = some (.bl false) := eq_nilL hok
      exact ⟨T, _, d4, _, .bad w r rfl hl hd hok hw, .inl rfl, hd4, by simp -implicitDefEqProofs only [runF, runX, runM, envOf, envM, List.map_cons, List.map_nil, List.length_cons, List.length_nil, List.cons_append, List.nil_append, List.replicate, List.getElem?_cons_succ, List.getElem?_cons_zero, List.set_cons_succ, List.set_cons_zero, if_true, Bool.false_eq_true, if_false, Nat.reduceAdd, Nat.reduceSub, Nat.zero_add, Nat.zero_le, Bool.not_true, Bool.not_false, Option.some.injEq, Option.bind_some, Nat.reduceLeDiff, rul_all, k22, this]⟩
    | good h hk hd =>
      subst h
      have : eqD (.lst []) (.lst []) = some (.bl true) := by kernel_rfl
      obtain ⟨v, d5, t5, hv, hd5⟩ := F_taken_lit hd4 2 (by decide) (by decide) (i := 2) rfl
      obtain ⟨b, hb⟩ := two80 hv (by decide)
      cases b with
      | false => exact ⟨T, [], d5, _, .good rfl hk hd, .inl rfl, hd5, by simp -implicitDefEqProofs only [runF, runX, runM, envOf, envM, List.map_cons, List.map_nil, List.length_cons, List.length_nil, List.cons_append, List.nil_append, List.replicate, List.getElem?_cons_succ, List.getElem?_cons_zero, List.set_cons_succ, List.set_cons_zero, if_true, Bool.false_eq_true, if_false, Nat.reduceAdd, Nat.reduceSub, Nat.zero_add, Nat.zero_le, Bool.not_true, Bool.not_false, Option.some.injEq, Option.bind_some, Nat.reduceLeDiff, rul_all, k22, this, t5, hb]⟩
      | true =>
        obtain ⟨j, d6, t6, hj, hd6⟩ := F_taken_lit hd5 4 (by decide) (by decide) (i := 4) rfl
        have hj' : j < heavy80.length := hj
        refine ⟨heavy80[j], [.str "heavy"], d6, .fz (.lst heavy80[j]), .bad _ [] rfl (by simp) (heavy_is _ (List.getElem_mem hj')) (by kernel_rfl) (by kernel_rfl), .inr rfl, hd6, ?_⟩
        have hx : ixD (.lst [.lst [.int 0, .int 1, .int 1], .lst [.int 4, .int 1, .int (-1)], .lst [.int 1, .int 0, .int (-20)], .lst [.int 0, .int 4, .int 1]]) (nD j) = some (.lst heavy80[j]) := by
          rcases (by omega : j = 0 ∨ j = 1 ∨ j = 2 ∨ j = 3) with rfl | rfl | rfl | rfl <;> kernel_rfl
        simp -implicitDefEqProofs only [runF, runX, runM, envOf, envM, List.map_cons, List.map_nil, List.length_cons, List.length_nil, List.cons_append, List.nil_append, List.replicate, List.getElem?_cons_succ, List.getElem?_cons_zero, List.set_cons_succ, List.set_cons_zero, if_true, Bool.false_eq_true, if_false, Nat.reduceAdd, Nat.reduceSub, Nat.zero_add, Nat.zero_le, Bool.not_true, Bool.not_false, Option.some.injEq, Option.bind_some, Nat.reduceLeDiff, rul_all, k22, this, t5, hb, t6, hx]
  refine (congrArg SO.fin (seqF_nx e5)).trans ?_
  clear e5 D0
  refine (congrArg SO.fin (seqF_nx (ε' := [.fz (.scr ns), .ow d5, .ow desk0, .fz (nD k), s4, .fz (.lst due'), .fz (.lst (names80 k)), .fz good80, .fz ends80, .fz words80, .fz (.str n3.s), a3, b3, .fz bf80, .no]) (by kernel_rfl))).trans ?_
  have sl : ∀ (w : Str) (r : List D), sliceD (.lst (.str w :: r)) none (some 1) = some (.lst [.str w]) := fun w r => (sl_toL (.str w :: r) 1).trans rfl
  obtain ⟨vm, d7, t7, hv7, hd7⟩ := F_taken_lit hd5 6 (by decide) (by decide) (i := 6) rfl
  have hx : ixD (.lst [.non, .tup [.str "><"], .str "x", .int 3, .dk [] [], .lst [.tup [.str "x"]]]) (nD vm) = some (odd80.getD vm .non) := by
    rcases (by omega : vm = 0 ∨ vm = 1 ∨ vm = 2 ∨ vm = 3 ∨ vm = 4 ∨ vm = 5) with rfl | rfl | rfl | rfl | rfl | rfl <;> kernel_rfl
  have hm : F__law_made [odd80.getD vm .non] = .ret (.bl true) := made80 _ (by
    rcases (by omega : vm = 0 ∨ vm = 1 ∨ vm = 2 ∨ vm = 3 ∨ vm = 4 ∨ vm = 5) with rfl | rfl | rfl | rfl | rfl | rfl <;> simp [odd80])
  cases D1 with
  | bad w r h hlr hd hok hw =>
    subst h
    have hd' : F__law_deed desk0 [nD k, .lst T'] = .ret (.lst [.str w]) desk0 := hd
    have ha : addD (.lst (.str w :: r)) (.lst [.str "good"]) = some (.lst (.str w :: (r ++ [.str "good"]))) := add_ords (by simp; omega)
    refine (congrArg SO.fin (seqF_nx (ε' := [.fz (.scr ns), .ow d5, .ow desk0, .fz (nD k), .fz (.lst T'), .fz (.lst (.str w :: r)), .fz (.lst (names80 k)), .fz good80, .fz ends80, .fz words80, .fz (.str n3.s), a3, b3, .fz bf80, .no]) (by
      rcases hT' with rfl | rfl <;> simp -implicitDefEqProofs only [runF, runX, runM, envOf, envM, List.map_cons, List.map_nil, List.length_cons, List.length_nil, List.cons_append, List.nil_append, List.replicate, List.getElem?_cons_succ, List.getElem?_cons_zero, List.set_cons_succ, List.set_cons_zero, if_true, Bool.false_eq_true, if_false, Nat.reduceAdd, Nat.reduceSub, Nat.zero_add, Nat.zero_le, Bool.not_true, Bool.not_false, Option.some.injEq, Option.bind_some, Nat.reduceLeDiff, rul_all, hd', ha, sl, hw]))).trans ?_
    refine (congrArg SO.fin (seqF_nx (ε' := [.fz (.scr ns), .ow d5, .ow desk0, .fz (nD k), .fz (.lst T'), .fz (.lst (.str w :: r)), .fz (.lst (names80 k)), .fz good80, .fz ends80, .fz words80, .fz (.str n3.s), a3, b3, .fz bf80, .fz bf80]) (by kernel_rfl))).trans ?_
    have hne : neD (.lst (.str w :: r)) (.lst []) = some (.bl true) := ne_nilP hok
    have heq : eqD (.lst (.str w :: r)) (.lst []) = some (.bl false) := eq_nilL hok
    have hbf : neD bf80 bf80 = some (.bl false) := by kernel_rfl
    have hrd : methMF 0 2 1 "redo" nilF F_Desk_redo [.fz (.scr ns), .ow d5, .ow desk0, .fz (nD k), .fz (.lst T'), .fz (.lst (.str w :: r)), .fz (.lst (names80 k)), .fz good80, .fz ends80, .fz words80, .fz (.str n3.s), a3, b3, .fz bf80, .fz bf80] =
      .ok (.bl false) [.fz (.scr ns), .ow d5, .ow desk0, .fz (nD k), .fz (.lst T'), .fz (.lst (.str w :: r)), .fz (.lst (names80 k)), .fz good80, .fz ends80, .fz words80, .fz (.str n3.s), a3, b3, .fz bf80, .fz bf80] := by kernel_rfl
    refine (congrArg SO.fin (seqF_nx (ε' := [.fz (.scr ns), .ow d5, .ow desk0, .fz (nD k), .fz (.lst T'), .fz (.lst (.str w :: r)), .fz (.lst (names80 k)), .fz good80, .fz ends80, .fz words80, .fz (.str n3.s), a3, b3, .fz bf80, .fz bf80]) (by simp -implicitDefEqProofs only [runF, runX, runM, envOf, envM, List.map_cons, List.map_nil, List.length_cons, List.length_nil, List.cons_append, List.nil_append, List.replicate, List.getElem?_cons_succ, List.getElem?_cons_zero, List.set_cons_succ, List.set_cons_zero, if_true, Bool.false_eq_true, if_false, Nat.reduceAdd, Nat.reduceSub, Nat.zero_add, Nat.zero_le, Bool.not_true, Bool.not_false, Option.some.injEq, Option.bind_some, Nat.reduceLeDiff, rul_all, hne, heq, hbf, hrd]))).trans ?_
    simp -implicitDefEqProofs only [runF, runX, runM, envOf, envM, List.map_cons, List.map_nil, List.length_cons, List.length_nil, List.cons_append, List.nil_append, List.replicate, List.getElem?_cons_succ, List.getElem?_cons_zero, List.set_cons_succ, List.set_cons_zero, if_true, Bool.false_eq_true, if_false, Nat.reduceAdd, Nat.reduceSub, Nat.zero_add, Nat.zero_le, Bool.not_true, Bool.not_false, Option.some.injEq, Option.bind_some, Nat.reduceLeDiff, rul_all, t7, hx, hm]
  | good h hk3 hd =>
    subst h
    have hd' : F__law_deed desk0 [nD k, .lst T'] = .ret (.lst [.str "good"]) (dg80 k) := hd
    have ha : addD (.lst []) (.lst [.str "good"]) = some (.lst (.str "good" :: [])) := by kernel_rfl
    have hw : neD (.lst [.str "good"]) (.lst [.str "good"]) = some (.bl false) := by kernel_rfl
    refine (congrArg SO.fin (seqF_nx (ε' := [.fz (.scr ns), .ow d5, .ow (dg80 k), .fz (nD k), .fz (.lst T'), .fz (.lst []), .fz (.lst (names80 k)), .fz good80, .fz ends80, .fz words80, .fz (.str n3.s), a3, b3, .fz bf80, .no]) (by
      rcases hT' with rfl | rfl <;> simp -implicitDefEqProofs only [runF, runX, runM, envOf, envM, List.map_cons, List.map_nil, List.length_cons, List.length_nil, List.cons_append, List.nil_append, List.replicate, List.getElem?_cons_succ, List.getElem?_cons_zero, List.set_cons_succ, List.set_cons_zero, if_true, Bool.false_eq_true, if_false, Nat.reduceAdd, Nat.reduceSub, Nat.zero_add, Nat.zero_le, Bool.not_true, Bool.not_false, Option.some.injEq, Option.bind_some, Nat.reduceLeDiff, rul_all, hd', ha, sl, hw]))).trans ?_
    obtain ⟨af, e13⟩ : ∃ af, (asgF (frzF (lstM (consF (propF (propMF 2 1 F_Desk_own_board) 0 F_Board_cells) (consF (propMF 2 1 F_Desk_own_load) (consF (propMF 2 1 F_Desk_own_strengths) (consF (lenMF 2 1 F_Desk___len__) nilF)))))) (gnF 14))
        [.fz (.scr ns), .ow d5, .ow (dg80 k), .fz (nD k), .fz (.lst T'), .fz (.lst []), .fz (.lst (names80 k)), .fz good80, .fz ends80, .fz words80, .fz (.str n3.s), a3, b3, .fz bf80, .no] =
        .nx [.fz (.scr ns), .ow d5, .ow (dg80 k), .fz (nD k), .fz (.lst T'), .fz (.lst []), .fz (.lst (names80 k)), .fz good80, .fz ends80, .fz words80, .fz (.str n3.s), a3, b3, .fz bf80, .fz af] := by
      rcases (by omega : k = 0 ∨ k = 1 ∨ k = 2) with rfl | rfl | rfl
      · exact ⟨.lst [.tup [.str "><", .str "x.", .str ".x"], .tup [.int 20, .int 0, .int 0, .int 0, .int (-20)], .tup [.int 1, .int 1, .int 1, .int 1, .int 1, .int 1], .int 2], by kernel_rfl⟩
      · exact ⟨.lst [.tup [.str "><", .str "x.", .str ".."], .tup [.int 20, .int 0, .int 0, .int 0, .int (-20)], st80, .int 2], by kernel_rfl⟩
      · exact ⟨.lst [.tup [.str "><", .str "x.", .str ".."], .tup [.int 20, .int (-20), .int 0, .int 20, .int (-20)], st80, .int 2], by kernel_rfl⟩
    refine (congrArg SO.fin (seqF_nx e13)).trans ?_
    have hne : neD (.lst []) (.lst []) = some (.bl false) := by kernel_rfl
    have heq : eqD (.lst []) (.lst []) = some (.bl true) := by kernel_rfl
    have h22 : neD (.int 2) (.int 2) = some (.bl false) := by kernel_rfl
    have hlen : lenMF 2 1 F_Desk___len__ [.fz (.scr ns), .ow d5, .ow (dg80 k), .fz (nD k), .fz (.lst T'), .fz (.lst []), .fz (.lst (names80 k)), .fz good80, .fz ends80, .fz words80, .fz (.str n3.s), a3, b3, .fz bf80, .fz af] =
      .ok (.int 2) [.fz (.scr ns), .ow d5, .ow (dg80 k), .fz (nD k), .fz (.lst T'), .fz (.lst []), .fz (.lst (names80 k)), .fz good80, .fz ends80, .fz words80, .fz (.str n3.s), a3, b3, .fz bf80, .fz af] := by
      rcases (by omega : k = 0 ∨ k = 1 ∨ k = 2) with rfl | rfl | rfl <;> kernel_rfl
    refine (congrArg SO.fin (seqF_nx (ε' := [.fz (.scr ns), .ow d5, .ow (dg80 k), .fz (nD k), .fz (.lst T'), .fz (.lst []), .fz (.lst (names80 k)), .fz good80, .fz ends80, .fz words80, .fz (.str n3.s), a3, b3, .fz bf80, .fz af]) (by simp -implicitDefEqProofs only [runF, runX, runM, envOf, envM, List.map_cons, List.map_nil, List.length_cons, List.length_nil, List.cons_append, List.nil_append, List.replicate, List.getElem?_cons_succ, List.getElem?_cons_zero, List.set_cons_succ, List.set_cons_zero, if_true, Bool.false_eq_true, if_false, Nat.reduceAdd, Nat.reduceSub, Nat.zero_add, Nat.zero_le, Bool.not_true, Bool.not_false, Option.some.injEq, Option.bind_some, Nat.reduceLeDiff, rul_all, hne, heq, h22, hlen]))).trans ?_
    simp -implicitDefEqProofs only [runF, runX, runM, envOf, envM, List.map_cons, List.map_nil, List.length_cons, List.length_nil, List.cons_append, List.nil_append, List.replicate, List.getElem?_cons_succ, List.getElem?_cons_zero, List.set_cons_succ, List.set_cons_zero, if_true, Bool.false_eq_true, if_false, Nat.reduceAdd, Nat.reduceSub, Nat.zero_add, Nat.zero_le, Bool.not_true, Bool.not_false, Option.some.injEq, Option.bind_some, Nat.reduceLeDiff, rul_all, t7, hx, hm]
end LW
end
set_option maxHeartbeats 0 in
theorem PySem.Challenge.cw_wovenframes_k80_desks_refuse_holds : PySem.Challenge.rw_wovenframes_k80_desks_refuse.Holds := by
  w_on; o_law
  exact LW.h_row LW.law_true
