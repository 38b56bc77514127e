import PyProof.Rows.All
import Wide.All
import OpenK.AllK
import Wide.FinOn
import KE.GoesMore
import KE.GoesEnum
import HandS.ForMost
import KE.KDictDisplayH
import KE.KDictPairs
import HandS.DictTup
import KE.SortData
import HandS.Conv
import HandS.More
import PyProof.ListMulRoad
import HandS.TupMul
import KE.KStateDown
import HandS.Exc
import HandS.ExcOwn
import HandS.WordsExc
import HandS.Defaults
import HandS.Walk
import HandS.TupLen
import HandS.TupAny
import HandS.NoneIn
import HandS.Style
import HandS.Deep
import HandS.IsInst
import HandS.ExcIs
import HandS.TryOnly
import HandS.CallLocal
import HandS.CallSlots
import HandS.Small
import PySem.Challenge.RW_passersby_k47_a_thousand_at_most
import Lean
import HandS.Head0
import HandS.Head1
import HandS.Head2
import HandS.HeadEnd
import HandS.HeadHook1
import HandS.HeadHook2
import HandS.HeadHook3
import HandS.HeadHook4
set_option Elab.async false
set_option linter.all false
set_option maxRecDepth 100000
set_option maxHeartbeats 4000000
namespace PySem
open Sem (wp)
open AutoSeq1 (wpAny_loadPart')
theorem meets_enumerate_newT (l : Addr) (items : Array Value) (n : Nat) (dct : Option Addr) (sl : Array (Option Value)) :
    Meets (Builtin.«enumerate.__new__» ⟨[.type "enumerate", .ref l], []⟩) (fun _ R s => s.heap.get? l = some { cls := .type "tuple", dict := dct, data := .seq items n, slots := sl } ∧
      R (.ok (.ret (.ref (s.heap.push { cls := .type "tuple_iterator", data := .fields #[.ref l, .int 0 0] }).objs.size)))
        { s with heap := (s.heap.push { cls := .type "tuple_iterator", data := .fields #[.ref l, .int 0 0] }).push { cls := .type "enumerate", data := .fields #[.none, .bool false, .ref s.heap.objs.size, rawInt 0, .none, .none] } }) :=
  .of_wp fun prog w A R s h => by
    obtain ⟨hp, g, d, tk, os⟩ := s; obtain ⟨hl, h⟩ := h
    have hsub := sub_enumerate
    have hL : Heap.IsTuple (Shared.heap ⟨hp, g, d, tk, os⟩) l items := ⟨_, hl, rfl, n, rfl⟩
    wp_walk using wpAny_loadPart' hl
    refine wpAny_stack_any fun st => wpAny_pure ?_
    split
    · rename_i c _ _ _ _ _
      cases (c == Value.type "enumerate")
      · wp_walk using wpAny_loadPart' hl, wpAny_pyIter_tuple hL
        exact ⟨_, rfl, h⟩
      · wp_walk using wpAny_loadPart' hl, wpAny_pyIter_tuple hL
        exact ⟨_, rfl, h⟩
    · wp_walk using wpAny_loadPart' hl, wpAny_pyIter_tuple hL
      exact ⟨_, rfl, h⟩
section
variable {prog : Program} {w : World} {A : Around} {E : Value → Shared → Prop} {s : Shared}
theorem call_enumerate_tuple {l : Addr} {items : Array Value} {Q : Value → Shared → Prop} (hL : s.heap.IsTuple l items)
    (h : ∀ h', IsEnum h' (s.heap.objs.size + 1) s.heap.objs.size 0 .none → h'.IsTupleIter s.heap.objs.size l 0 → h'.objs.size = s.heap.objs.size + 2 →
      (∀ b o, s.heap.get? b = some o → h'.get? b = some o) → Q (.ref (s.heap.objs.size + 1)) { s with heap := h' }) :
    wpAny (model prog w) A (call (.type "enumerate") [.ref l]) Q E s := by
  obtain ⟨⟨c, dct, dt, sl⟩, hl, hc, n, hd⟩ := hL
  replace hc : c = .type "tuple" := hc
  replace hd : dt = .seq items n := hd
  subst hc hd
  refine callType_new F.called_enumerate (by decide) (F.typeCall_enumerate_1 _) (F.newCall_enumerate_1 _) (fun obj => F.args_object_init_2 obj _) F.entry_enumerate_new
    (meets_enumerate_newT l items n dct sl) ⟨hl, ?_⟩
  have hz : (s.heap.push { cls := .type "tuple_iterator", data := .fields #[.ref l, .int 0 0] }).objs.size = s.heap.objs.size + 1 := Heap.size_push ..
  show _ ∧ _
  rw [hz]
  have he : IsEnum ((s.heap.push { cls := .type "tuple_iterator", data := .fields #[.ref l, .int 0 0] }).push
      { cls := .type "enumerate", data := .fields #[.none, .bool false, .ref s.heap.objs.size, rawInt 0, .none, .none] }) (s.heap.objs.size + 1) s.heap.objs.size 0 .none := by
    have := Heap.get?_push_size (s.heap.push { cls := .type "tuple_iterator", data := .fields #[.ref l, .int 0 0] })
      (o := { cls := .type "enumerate", data := .fields #[.none, .bool false, .ref s.heap.objs.size, rawInt 0, .none, .none] }) rfl
    rw [hz] at this; exact this
  refine ⟨⟨_, he, rfl⟩, h _ he ⟨_, Heap.get?_push_of_some _ (Heap.get?_push_size _ rfl), rfl, rfl⟩ (by rw [Heap.size_push, hz]) fun b o x => Heap.get?_push_of_some _ (Heap.get?_push_of_some _ x)⟩
end
end PySem
namespace Pf
open PySem PySem.Spec PyProof.Rows L2
/-- the tuple at a, each item in a new pair -/
def IteT (K : PySem.W.Frag) (a : Addr) : It :=
  ⟨fun i H => ∃ (xs : List V) (x : V), SqT K H a xs ∧ xs[i]? = some x, fun i H v H' => ∃ T x, v = .ref T ∧ H T = none ∧ H' = upd H T (.tup [.int (i : Nat), x]) ∧ ∀ xs, SqT K H a xs → xs[i]? = some x, fun i H => ∃ xs : List V, SqT K H a xs ∧ xs.length ≤ i⟩
theorem turn_enumT {P : Program} {w : World} {K : PySem.W.Frag} {elts : List Expr} {kk : Nat} {tpos : Pos} (a e it : Addr) :
    Turn P w K (.Tuple elts kk tpos) (IteT K a) [e, it] e (fun i h => (∃ old, IsEnum h e it ((i : Nat) : Int) old) ∧ h.IsTupleIter it a i ∧ e ≠ it) where
  mem := by simp
  obj := fun i h st b hb => by
    obtain ⟨⟨old, he⟩, ⟨o, ho, hc, hd⟩, _⟩ := st
    have e' : b = e ∨ b = it := by simpa using hb
    rcases e' with z | z
    · rw [z]; exact ⟨_, he, fun v q => nomatch q⟩
    · rw [z]; exact ⟨o, ho, fun v q => by rw [hd] at q; cases q⟩
  keep := fun i h h' st k => let ⟨⟨old, he⟩, hi, hne⟩ := st; ⟨⟨old, k e (by simp) _ he⟩, hi.at fun o q => k it (by simp) o q, hne⟩
  item := by
    intro X hP hw hK hc i pins s σ H E I hf st hg
    subst hP hw hK
    obtain ⟨⟨old, he⟩, hit, hne⟩ := st
    obtain ⟨xs, x, hq, hx⟩ := hg
    obtain ⟨its, rv, p, hz⟩ := I.tuple hq
    obtain ⟨u, hu, ru⟩ := rv.get hx
    have ht : s.heap.IsTuple a its.toArray := p
    have hel : e < s.heap.objs.size := Heap.lt_size he
    have hil : it < s.heap.objs.size := by obtain ⟨_, q, _⟩ := hit; exact Heap.lt_size q
    have hai : a ≠ it := by
      rintro rfl
      obtain ⟨o1, q1, c1, _⟩ := hit
      obtain ⟨o2, q2, c2, _⟩ := ht
      rw [q1] at q2; cases q2
      rw [c1] at c2; injection c2 with c3; exact absurd c3 (by decide)
    have hea : e ≠ a := by
      rintro rfl
      obtain ⟨o2, q2, c2, _⟩ := ht
      have q1 : s.heap.get? e = some _ := he
      rw [q1] at q2; cases q2
      injection c2 with c3; exact absurd c3 (by decide)
    have hlt : i < its.toArray.size := by
      have := (List.getElem?_eq_some_iff.mp hu).1
      simpa using this
    have D := Draws.tuple (prog := X.prog) (w := X.w) (A := X.A.in1) (show X.A.in1.handled = none from I.ok.hd hc) it a hai its.toArray
    refine wpAny_pyNext_enum_itemD D he ⟨hit, ht⟩ hlt hne (by simp [hne, hea]) fun y h' tk hy ho hst hT hsz hk => ?_
    have ey : y = u := by
      have h2 : its.toArray[i]? = some u := by simpa using hu
      rw [h2] at hy; exact (Option.some.inj hy).symm
    subst ey
    refine ⟨_, rfl, wpAny_letOwnedTupleGo_enum (s := { s with heap := h', toks := tk + 1 }) ho fun h'' he' sb => ?_⟩
    have hT2 : h''.get? s.heap.objs.size = some { cls := .type "tuple", data := .seq #[.int i tk, y] } := (sb.2 _ (Nat.ne_of_gt hel)).trans hT
    have new : ObjOk X.prog X.w (upd H s.heap.objs.size (.tup [.int (i : Nat), x])) h'' s.heap.objs.size (.tup [.int (i : Nat), x]) :=
      ⟨by show 2 ≤ sizeLine; decide, [.int i tk, y], .cons ⟨_, rfl⟩ (.cons ru .nil), ⟨_, hT2, rfl, _, rfl⟩⟩
    have I1 : Inv X pins σ (upd H s.heap.objs.size (.tup [.int (i : Nat), x])) { s with heap := h'', toks := tk + 1 } :=
      I.turnedNew (ch := [e, it]) (fun b ob hb q => (sb.2 b (fun z => hb (by simp [z]))).trans (hk b ob (fun z => hb (by simp [z])) (fun z => hb (by simp [z])) q)) hf (Nat.le_refl _) new
    refine ⟨.ref s.heap.objs.size, _, I1, rfl, ⟨_, x, rfl, I.hok.fresh (Nat.le_refl _), rfl, fun ys hy => ?_⟩, ⟨⟨y, ?_⟩, hst.1.at fun o q => (sb.2 it (Ne.symm hne)).trans q, hne⟩, fun b hb => ?_⟩
    · rw [I.tuple_inj hy hq]; exact hx
    · have e1 : ((i + 1 : Nat) : Int) = (i : Int) + 1 := by omega
      rw [e1]; exact he'
    · have hb' : b < s.heap.objs.size := by
        have e' : b = e ∨ b = it := by simpa using hb
        rcases e' with z | z
        · rw [z]; exact hel
        · rw [z]; exact hil
      rw [upd_ne (Nat.ne_of_lt hb')]
      exact (hf b hb).1
  done := by
    intro X hP hw hK hc i pins s σ H E I hf st hg
    subst hP hw hK
    obtain ⟨⟨old, he⟩, hit, hne⟩ := st
    obtain ⟨xs, hq, hx⟩ := hg
    obtain ⟨its, rv, p, hz⟩ := I.tuple hq
    have ht : s.heap.IsTuple a its.toArray := p
    have hai : a ≠ it := by
      rintro rfl
      obtain ⟨o1, q1, c1, _⟩ := hit
      obtain ⟨o2, q2, c2, _⟩ := ht
      rw [q1] at q2; cases q2
      rw [c1] at c2; injection c2 with c3; exact absurd c3 (by decide)
    obtain ⟨f0, f1, f2, f3, f4, f5⟩ := hf it (by simp)
    have hl := rv.length
    have hT : s.TypeIs (.ref e) "enumerate" := ⟨_, he, rfl⟩
    unfold pyNext
    refine wpAny_bind (wpAny_attempt (wpAny_callSpecial?_slot (name := Str.ofString "__next__") hT F.slot_enumerate_next
      (wpAny_call_entry F.slot_enumerate_next hT F.entry_enumerate_next ?_ (F.args_enumerate_next_1 _))))
    show wpAny _ _ (field (.ref e) 2 >>= _) _ _ _
    refine wpAny_bind (wpAny_field he rfl (x := .ref it) rfl ?_)
    refine wpAny_bind (wpAny_nextOf_tuple_end (show X.A.in1.handled = none from I.ok.hd hc) hit ht (by simp; omega) fun h' x he' hx' => ?_)
    obtain ⟨o, ho, hc'⟩ := hx'
    refine wpAny_bind (wpAny_isInstance (T := "StopIteration") (b := true) ⟨o, ho, hc'⟩ isSubtype_stop ?_)
    exact wpAny_pure ⟨rfl, I.turned (t' := s.toks) (fun b o hb q => he' b o hb q) f0 f1 f3 f4 f5⟩
  self := fun A i s Q E st h => let ⟨⟨_, he⟩, _⟩ := st; wpAny_pyIter_enum he h
def iEnumT (K : PySem.W.Frag) (ta : TA) : TI := fun σ H R => ta σ H fun vs H1 => ∃ a xs, vs = [.ref a] ∧ SqT K H1 a xs ∧ R (IteT K a) H1
theorem pi_enumT {X : Cx} {e : Expr} {ta : TA} {p pos tpos : Pos} {elts : List Expr} {kk : Nat} (hg : Gl X "enumerate") (hm : X.mg "enumerate" = none) (ha : PA X [e] ta) (hs : starEach [e] X.env = [(false, eval e X.env)] := by rfl) :
    PI X (.Tuple elts kk tpos) (.Call (.Name "enumerate" p) [e] [] pos) (iEnumT X.K ta) := by
  refine ⟨fun pins s σ H R I h => ?_⟩
  refine Call_ (ld_blt I hg hm boot_enumerate (PyProof.Rows.callWith_type1 (thn (ha.run pos pins s σ H _ I h) fun us s1 ⟨vs, H1, I1, r1, q1⟩ => ?_) hs rfl))
  obtain ⟨a, xs, ex, hq, q⟩ := q1
  subst ex
  cases r1 with
  | cons r rr =>
    cases rr
    cases r
    obtain ⟨its, rv, p', hz⟩ := I1.tuple hq
    refine call_enumerate_tuple (show s1.heap.IsTuple a its.toArray from p') fun h' he hit hsz hk => wpAny_pyIter_enum he ?_
    have I2 : Inv X pins σ H1 { s1 with heap := h' } := I1.kept (t' := s1.toks) hk
    refine ⟨s1.heap.objs.size + 1, [s1.heap.objs.size + 1, s1.heap.objs.size], _, _, H1, rfl, I2, turn_enumT a (s1.heap.objs.size + 1) s1.heap.objs.size, ⟨⟨.none, he⟩, hit, Nat.succ_ne_self _⟩, fun b hb => ?_, q⟩
    have e' : b = s1.heap.objs.size + 1 ∨ b = s1.heap.objs.size := by simpa using hb
    have hle : s1.heap.objs.size ≤ b := by
      rcases e' with z | z
      · rw [z]; exact Nat.le_add_right _ _
      · rw [z]; exact Nat.le_refl _
    exact I1.fpOk hle (I1.hok.fresh hle)
end Pf

set_option Elab.async false
set_option linter.all false
set_option maxRecDepth 100000
set_option maxHeartbeats 4000000
namespace Pf
open PySem PySem.Spec PyProof.Rows L2
section
variable {X : Cx}
theorem dict_pairsO {K : Type} [DecidableEq K] {prog : Program} {w : World} {knd : HeapKind prog w K} {A : Around} {E : Value → Shared → Prop} {s : Shared} {env : Env} {keys : List (Option Expr)} {values : List Expr} {pos : Pos} {pairs : List (Sem Value × Sem Value)} {Q : Value → Shared → Prop} (hu : knd.room A)
    (hshape : (evalEachOpt keys env).zip ((evalEach values env).map fun v => do let x ← v; standAt pos; pure x) = pairs.map fun p => (some p.1, p.2)) (h0 : pairs ≠ []) (hlen : pairs.length ≤ 15)
    (h : wpAny (model prog w) A (evalPairs pairs) (fun vs s₁ => ∃ ps, CarriesH knd s₁.heap vs ps ∧ s₁.heap.DictOfH knd s.heap.objs.size [] ∧
      ∀ h' tk, h'.DictOfH knd s.heap.objs.size (storedAllH [] ps) → Heap.SameBut s.heap.objs.size s₁.heap h' → Q (.ref s.heap.objs.size) { s₁ with heap := h', toks := tk }) E
      { s with heap := s.heap.push { cls := .type "dict", data := .dict #[] } }) :
    wpAny (model prog w) A (eval (.Dict keys values pos) env) Q E s := by
  rw [arm_eval_Dict, hshape, dictDisplay_pairs pairs h0 (by omega)]
  exact wpAny_bind (wpAny_standAt (wpAny_bind (wpAny_subDictH (knd := knd) (Q := fun d s' => wpAny (model prog w) A (pure (Value.ref d)) Q E s') hu hlen
    (wpAny_mono h (fun vs s₁ h₁ => by obtain ⟨ps, hc, hm, hq⟩ := h₁; exact ⟨ps, hc, hm, fun h' tk a b => wpAny_pure (hq h' tk a b)⟩) fun _ _ e => e))))
/-- {k: v}, k a tuple -/
def tDisp1 (tk tv : TE) : TE := fun σ H Q => ∀ p, H p = none → tk σ (upd H p (.dT [])) fun x H1 => tv σ H1 fun y H2 => ∃ (c : List L2.Key) (b : Addr), x = .ref b ∧ H2 b = some (.tup (c.map kV)) ∧ H2 p = some (.dT []) ∧ Q (.ref p) (upd H2 p (.dT [(c, y)]))
theorem pe_disp1 {k v : Expr} {tk tv : TE} {pos : Pos} (hu : X.A.units + 1 < cLine) (hk : PE X k tk) (hv : PE X v tv) : PE X (.Dict [some k] [v] pos) (tDisp1 tk tv) := by
  refine ⟨fun pins s σ H Q I q => ?_⟩
  have hn := I.hok.fresh (Nat.le_refl s.heap.objs.size)
  have I1 := I.laid (a := s.heap.objs.size) (o := .dT []) (h' := s.heap.push { cls := .type "dict", data := .dict #[] }) (t' := s.toks) (fun _ _ q => Heap.get?_push_of_some _ q) (Nat.le_refl _) (dt_empty s.heap I.big)
  have hn1 := pairTrees_length [some k] [v] X.env pos rfl rfl
  refine dict_pairsO (knd := tupleKind (mixKind X.prog X.w)) (pairs := pairTrees [some k] [v] X.env pos) (show X.A.units < cLine from Nat.lt_of_succ_lt hu) (zip_pairTrees [some k] [v] X.env pos rfl rfl) (by intro z; rw [z] at hn1; cases hn1) (by rw [hn1]; exact (by decide : 1 ≤ 15)) ?_
  refine pairTrees_cons_walk (thn (hk.run pins _ σ _ _ I1 (q _ hn)) fun u s1 ⟨x, H1, I2, rx, q1⟩ => thn (hv.run pins s1 σ H1 _ I2 q1) fun w2 s2 ⟨y, H2, I3, ry, c, b, ex, hb, hd, q2⟩ => pairTrees_nil_walk ?_)
  subst ex
  cases rx
  obtain ⟨z, hs, xs, rel, dd⟩ := dt_of I3.hok hd
  cases rel
  refine ⟨[(c, b, w2)], ⟨rfl, rfl, key_of I3.hok hb, trivial⟩, dd, fun h' tk dd' sb => ⟨.ref s.heap.objs.size, upd H2 s.heap.objs.size (.dT [(c, y)]), ?_, rfl, q2⟩⟩
  obtain ⟨o, es, ep, hq, h2, h3, h4, _, h5⟩ := dd'
  have hb' : (upd H2 s.heap.objs.size (.dT [(c, y)])) b = some (.tup (c.map kV)) := by
    rw [upd_ne (ne_of hb hd (by intro z; cases z))]; exact hb
  exact d_write (t' := tk) (ob := .dT [(c, y)]) I3 (by rw [hd]; exact True.intro) sb ⟨o, hq⟩ ⟨by show 1 ≤ sizeLine; decide, hs, [(c, b, w2)], .cons ⟨rfl, hb', ry⟩ .nil, o, es, ep, hq, h2, h3, h4, h5⟩
/-- d.pop(k), k a tuple that is there -/
def rPopT1 : V → List V → Hp → VK → Prop := fun x xs H Q => ∃ (a : Addr) (kvs : List (List L2.Key × V)) (k : List L2.Key) (b : Addr) (v : V), x = .ref a ∧ xs = [.ref b] ∧ H a = some (.dT kvs) ∧ H b = some (.tup (k.map kV)) ∧ valV kvs k = some v ∧ Q v (upd H a (.dT (dropK kvs k)))
theorem mt_popT1 (hu : X.A.units + 1 < cLine) : MtR X "dict.pop" rPopT1 := by
  intro pins s σ H x xs v us Q I rx rxs h
  obtain ⟨a, kvs, k, b, v0, rfl, rfl, ha, hb, hv, q1⟩ := h
  cases rx
  obtain ⟨u1, rfl, r1⟩ := vals1 rxs
  cases r1
  obtain ⟨z, hd, xs', rel, dd⟩ := dt_of I.hok ha
  have hz : xs'.length ≤ sizeLine := by rw [← Paired.length rel]; exact z
  have r := rel.val k
  rw [hv] at r
  cases hp : atKey xs' k with
  | none => rw [hp] at r; exact (show False from r).elim
  | some p =>
    rw [hp] at r
    refine call_pop_heap (knd := tupleKind (mixKind X.prog X.w)) (k := k) (more := []) (.inl rfl) (PySem.F.args_dict_pop_2 _ _) (tupleKind_room_in1 hu) (key_of I.hok hb) hd dd hp (fun h' dd' hs => ?_) hz
    obtain ⟨o, es, ep, hq, h2, h3, h4, _, h5⟩ := dd'
    have I2 : Inv X pins σ (upd H a (.dT (dropK kvs k))) { s with heap := h', toks := s.toks + (tupleKind (mixKind X.prog X.w)).draws k } :=
      d_write I (by rw [ha]; exact True.intro) hs ⟨o, hq⟩ ⟨Nat.le_trans (dropK_le kvs k) z, hd, _, (DX.KT_drop k rel).keeps (fun c ys ec => (by rw [upd_ne (ne_of ec ha (fun z => nomatch z))]; exact ec)), o, es, ep, hq, h2, h3, h4, h5⟩
    exact ⟨v0, _, I2, r, q1⟩
/-- dict(a list of pairs), the keys tuples: es tells of each pair its key, where the key stands, the value -/
def rDictT (K : PySem.W.Frag) : List V → Hp → VK → Prop := fun xs H Q => ∃ (a : Addr) (ps : List Addr) (es : List (List L2.Key × Addr × V)), xs = [.ref a] ∧ SqL K H a (ps.map V.ref) ∧ Paired (fun p (e : List L2.Key × Addr × V) => SqT K H p [.ref e.2.1, e.2.2] ∧ H e.2.1 = some (.tup (e.1.map kV))) ps es ∧
  ∀ d, H d = none → Q (.ref d) (upd H d (.dT (es.foldl (fun acc e => putK acc e.1 e.2.2) [])))
theorem pairsT_of {pins : List (Addr × Obj)} {σ : L2.St} {H : Hp} {s : Shared} (I : Inv X pins σ H s) : ∀ {ps : List Addr} {es : List (List L2.Key × Addr × V)}, Paired (fun p (e : List L2.Key × Addr × V) => SqT X.K H p [.ref e.2.1, e.2.2] ∧ H e.2.1 = some (.tup (e.1.map kV))) ps es →
    ∃ prs : List (List L2.Key × Addr × Value), Paired (fun (e : List L2.Key × Addr × V) q => e.1 = q.1 ∧ e.2.1 = q.2.1 ∧ RelV e.2.2 q.2.2 ∧ H e.2.1 = some (.tup (e.1.map kV))) es prs ∧ prs.length = ps.length ∧ ∀ (j : Nat) q, prs[j]? = some q → ∃ b : Addr, ps[j]? = some b ∧ IsTup s.heap b #[.ref q.2.1, q.2.2]
  | _, _, .nil => ⟨[], .nil, rfl, fun j q e => by simp at e⟩
  | _, _, .cons (a := p) (b := e) h t => by
    obtain ⟨prs, r, hl, hp⟩ := pairsT_of I t
    obtain ⟨its, rv, ht, _⟩ := I.tuple h.1
    obtain ⟨u, y, ei, ru, ry⟩ := vals2 rv
    subst ei
    cases ru
    refine ⟨(e.1, e.2.1, y) :: prs, .cons ⟨rfl, rfl, ry, h.2⟩ r, by rw [List.length_cons, List.length_cons, hl], fun j q e' => ?_⟩
    cases j with
    | zero =>
      have e2 : (e.1, e.2.1, y) = q := Option.some.inj e'
      subst e2
      exact ⟨p, rfl, ht⟩
    | succ j =>
      obtain ⟨b, e1, e2⟩ := hp j q (by simpa using e')
      exact ⟨b, by simpa using e1, e2⟩
theorem kt_fold {H : Hp} : ∀ {es : List (List L2.Key × Addr × V)} {prs : List (List L2.Key × Addr × Value)} {kvs : List (List L2.Key × V)} {xs : List (List L2.Key × Addr × Value)},
    Paired (fun (e : List L2.Key × Addr × V) q => e.1 = q.1 ∧ e.2.1 = q.2.1 ∧ RelV e.2.2 q.2.2 ∧ H e.2.1 = some (.tup (e.1.map kV))) es prs → KT H kvs xs →
    KT H (es.foldl (fun acc e => putK acc e.1 e.2.2) kvs) (storedAllH xs prs)
  | _, _, _, _, .nil, r => r
  | e :: es, q :: prs, kvs, xs, .cons h t, r => by
    obtain ⟨h1, h2, h3, h4⟩ := h
    have := kt_fold (kvs := putK kvs e.1 e.2.2) (xs := storedH xs q.1 q.2.1 q.2.2) t (by rw [← h1, ← h2]; exact r.put e.1 h4 h3)
    exact this
theorem fold_len : ∀ (es : List (List L2.Key × Addr × V)) (kvs : List (List L2.Key × V)), (es.foldl (fun acc e => putK acc e.1 e.2.2) kvs).length ≤ kvs.length + es.length
  | [], kvs => by simp
  | e :: es, kvs => by
    have h1 := fold_len es (putK kvs e.1 e.2.2)
    have h2 := length_putK kvs e.1 e.2.2
    rw [List.foldl_cons, List.length_cons]; omega
theorem call_dictT (hcalm : X.calm = true) (hu : X.A.units + 3 < cLine) : CallR X (.type "dict") (rDictT X.K) := by
  intro pins s σ H xs us Q I r q
  obtain ⟨a, ps, es, ex, hq, hp, q⟩ := q
  subst ex
  obtain ⟨u, eu, rx⟩ := vals1 r
  subst eu
  cases rx
  obtain ⟨its, rv, pl, hz⟩ := I.list hq
  have ei := refs_at rv
  subst ei
  rw [List.length_map] at hz
  obtain ⟨prs, rel, hl, hpr⟩ := pairsT_of I hp
  obtain ⟨o, n, ho, hc, hd, hdat⟩ := pl
  have hkey : ∀ x ∈ prs, (tupleKind (mixKind X.prog X.w)).is s.heap x.1 x.2.1 := by
    intro x hx
    obtain ⟨j, hj, e⟩ := List.mem_iff_getElem.mp hx
    have e' : prs[j]? = some x := by rw [List.getElem?_eq_getElem hj, e]
    have : ∀ {es : List (List L2.Key × Addr × V)} {prs : List (List L2.Key × Addr × Value)} {j : Nat}, Paired (fun (e : List L2.Key × Addr × V) q => e.1 = q.1 ∧ e.2.1 = q.2.1 ∧ RelV e.2.2 q.2.2 ∧ H e.2.1 = some (.tup (e.1.map kV))) es prs → prs[j]? = some x → H x.2.1 = some (.tup (x.1.map kV)) := by
      intro es prs j p
      induction p generalizing j with
      | nil => intro e; simp at e
      | cons h t ih =>
        intro e
        cases j with
        | zero =>
          have e2 := Option.some.inj e
          subst e2
          obtain ⟨h1, h2, h3, h4⟩ := h
          rw [← h1, ← h2]; exact h4
        | succ j => exact ih (by simpa using e)
    exact key_of I.hok (this rel e')
  refine call_dict_pairsH (knd := tupleKind (mixKind X.prog X.w)) (ps := prs) (PairArg.list (prog := X.prog) (w := X.w) a (ps.map Value.ref).toArray (fun j => ps.getD j 0) (prs.map fun x => (.ref x.2.1, x.2.2))) (I.ok.hd hcalm) (by show X.A.units + 1 + 1 < cLine; omega) ⟨⟨o, n, ho, hc, hd, hdat⟩, ?_, ?_⟩ ⟨?_, ?_⟩ (fun h' hk x hx => ?_) (by simp [hl]; exact hz) fun h' tk dd' k => ?_
  · simp [hl]
  · intro j kv v e
    rw [List.getElem?_map] at e
    cases e2 : prs[j]? with
    | none => rw [e2] at e; cases e
    | some x =>
      rw [e2] at e
      have e3 := Option.some.inj e
      cases e3
      obtain ⟨b, h1, h2⟩ := hpr j x e2
      have hb : ps.getD j 0 = b := by rw [List.getD_eq_getElem?_getD, h1]; rfl
      refine ⟨by simp [h1, hb], Or.inl ?_⟩
      show s.heap.IsTuple (ps.getD j 0) _
      rw [hb]; exact h2
  · simp
  · intro j key v e
    rw [PairRel, List.getElem?_map] at e
    cases e2 : prs[j]? with
    | none => rw [e2] at e; cases e
    | some x =>
      rw [e2] at e
      have e3 := Option.some.inj e
      cases e3
      exact ⟨x.1, x.2.1, rfl, rfl⟩
  · exact tupleKind_stays.stays (fun b o vs m e _ => hk b o (Nat.ne_of_lt (Heap.lt_size e)) (by simp) e) (hkey x hx)
  · have hm : (s.heap.objs.size == sysModules) = false := beq_eq_false_iff_ne.mpr (Nat.ne_of_gt I.big)
    have hk : ∀ b o, s.heap.get? b = some o → h'.get? b = some o := fun b o e => k b o (by simp) e
    have hlen : (es.foldl (fun acc e => putK acc e.1 e.2.2) []).length ≤ sizeLine := by
      refine Nat.le_trans (fold_len es []) ?_
      rw [List.length_nil, Nat.zero_add, rel.length, hl]
      exact hz
    have hfree := I.hok.fresh (Nat.le_refl s.heap.objs.size)
    obtain ⟨o', es', ep, hq', h2, h3, h4, _, h5⟩ := dd'
    have kt : KT (upd H s.heap.objs.size (.dT (es.foldl (fun acc e => putK acc e.1 e.2.2) []))) (es.foldl (fun acc e => putK acc e.1 e.2.2) []) (storedAllH [] prs) := (kt_fold rel .nil).keeps fun c ys ec => (by rw [upd_ne (ne_of_none ec hfree)]; exact ec)
    exact ⟨.ref s.heap.objs.size, _, I.laid (t' := tk) hk (Nat.le_refl _) (show ObjOk X.prog X.w _ _ _ (.dT (es.foldl (fun acc e => putK acc e.1 e.2.2) [])) from ⟨hlen, hm, _, kt, o', es', ep, hq', h2, h3, h4, h5⟩), rfl, q _ hfree⟩
end
end Pf

set_option Elab.async false
set_option linter.all false
set_option maxRecDepth 100000
set_option maxHeartbeats 4000000
namespace Pf
open PySem PySem.Spec PyProof.Rows L2
open PySem.W (EachIs AllAlike Sortable dataLe sorted_data dataKind alike)
section
variable {X : Cx}
/-- sorted(xs), each item with the data that it reads as -/
def rSortedG (K : PySem.W.Frag) : List V → Hp → VK → Prop := fun vs H Q => ∃ (a : Addr) (bs : List (V × PyData)), vs = [V.ref a] ∧ SqL K H a (bs.map (·.1)) ∧ (∀ b ∈ bs, Dp K H b.1 b.2) ∧ AllAlike (bs.map (·.2)) ∧ Sortable (bs.map (·.2)) ∧ (∀ b ∈ bs, b.2.depth ≤ 20) ∧
  ∀ p, H p = none → Q (.ref p) (upd H p (.lst ((bs.mergeSort (dataLe false (·.2))).map (·.1))))
theorem each_of {α β : Type} {R : α → β → Prop} : ∀ {xs : List α} {ys : List β}, Paired (fun y x => R x y) ys xs → EachIs R xs ys
  | _, _, .nil => .nil
  | _, _, .cons h t => .cons h (each_of t)
theorem of_each {α β : Type} {R : α → β → Prop} {xs : List α} {ys : List β} (e : EachIs R xs ys) : Paired (fun y x => R x y) ys xs := by
  induction e with
  | nil => exact .nil
  | cons h _ ih => exact .cons h ih
theorem paired_map {α β γ : Type} {F : γ → β → Prop} {f : α → γ} : ∀ {as : List α} {bs : List β}, Paired F (as.map f) bs → Paired (fun a b => F (f a) b) as bs
  | [], _, .nil => .nil
  | a :: as, _, .cons h t => .cons h (paired_map t)
theorem map_paired {α β γ : Type} {F : γ → β → Prop} {f : α → γ} : ∀ {as : List α} {bs : List β}, Paired (fun a b => F (f a) b) as bs → Paired F (as.map f) bs
  | _, _, .nil => .nil
  | _, _, .cons h t => .cons h (map_paired t)
theorem paired_mem {α β : Type} {F : α → β → Prop} {G : α → β → Prop} : ∀ {as : List α} {bs : List β}, Paired F as bs → (∀ a ∈ as, ∀ b, F a b → G a b) → Paired G as bs
  | _, _, .nil, _ => .nil
  | _, _, .cons h t, g => .cons (g _ (List.mem_cons_self ..) _ h) (paired_mem t fun a ha b q => g a (List.mem_cons_of_mem _ ha) b q)
theorem cr_sortedG (hu : X.A.units + 64 < cLine) : CallR X (.builtin "sorted") (rSortedG X.K) := by
  intro pins s σ H vs us Q I r h
  obtain ⟨a, bs, rfl, hs, hd, hal, hk, hdp, q⟩ := h
  obtain ⟨its, rv, hl, hz⟩ := I.list hs
  rw [Vals.ref1 r]
  have e : EachIs (fun (v : Value) (b : V × PyData) => RelV b.1 v) its bs := each_of (paired_map rv)
  have er : EachIs (fun (v : Value) (b : V × PyData) => ∃ as, Reads s.heap v b.2 as) its bs := each_of (paired_mem (paired_map rv) fun b hb v r => Dp.reads I b.2 b.1 v (hd b hb) r)
  have hbl : bs.length ≤ sizeLine := by rw [List.length_map] at hz; exact hz
  refine sorted_data (enc := (·.2)) hl.isList e er hal hk hbl (fun b hb => by have := hdp b hb; omega) fun out h1 h2 => ?_
  obtain ⟨ep, he'⟩ := PyProof.Rows.sortedAll_at s.heap its out.toArray
  have hlen : ((bs.mergeSort (dataLe false (·.2))).map (·.1)).length ≤ sizeLine := by rw [List.length_map, List.length_mergeSort]; exact hbl
  refine ⟨.ref _, _, I.laid (t' := s.toks) (fun _ _ => PyProof.Rows.sortedAll_old) (Nat.le_succ _) (show ObjOk X.prog X.w _ _ _ (.lst ((bs.mergeSort (dataLe false (·.2))).map (·.1))) from ⟨hlen, out, ep, map_paired (of_each h2), he'⟩), rfl, q _ (I.hok.fresh (Nat.le_succ _))⟩
/-- a crowd as data -/
def encC (c : List Int) : PyData := .tuple (c.map .int)
theorem dp_all_ints {K : PySem.W.Frag} {H : Hp} : ∀ ns : List Int, DpAll K H (ns.map V.int) (ns.map PyData.int)
  | [] => .nil
  | n :: r => .cons (.int n) (dp_all_ints r)
theorem dp_crowd {K : PySem.W.Frag} {H : Hp} {a : Addr} {c : List Int} (h : H a = some (.tup (c.map V.int))) : Dp K H (.ref a) (encC c) := .tup (SqT.of h) (dp_all_ints c)
theorem encC_alike (b c : List Int) : alike (encC b) (encC c) = true := PySem.W.alike_ints b c
theorem depth_encC (c : List Int) : (encC c).depth ≤ 20 := by
  show (PyData.tuple (c.map .int)).depth ≤ 20
  have := PySem.W.depth_ints c
  simp only [PyData.depth, this]
  omega
/-- sorted(d): the keys, tuples of ints -/
def rSortedDT : List V → Hp → VK → Prop := fun vs H Q => ∃ (a : Addr) (kvs : List (List L2.Key × V)) (cs : List (List Int)), vs = [V.ref a] ∧ Rd H a (.dT kvs) ∧ kvs.map (·.1) = cs.map (fun c => c.map Sum.inl) ∧ (∀ c ∈ cs, c ≠ []) ∧
  ∀ p (bs : List Addr), H p = none → Paired (fun b c => H b = some (.tup (c.map V.int))) bs (cs.mergeSort (dataLe false encC)) → Q (.ref p) (upd H p (.lst (bs.map V.ref)))
theorem cr_sortedD (hu : X.A.units + 64 < cLine) (hc : X.calm = true) : CallR X (.builtin "sorted") rSortedDT := by
  intro pins s σ H xs us Q I r h
  obtain ⟨d, kvs, cs, rfl, hd, hks, hne, q⟩ := h
  obtain ⟨u, rfl, rx⟩ := r.one
  cases rx
  obtain ⟨z, hs, ks, pr, o, es, ep, ho, hx, hdt, he, hn⟩ := (show ObjOk X.prog X.w H s.heap d (.dT kvs) from hd.ok I.hok)
  have l1 : es.size = ks.length := size_of_entries he
  have l2 : kvs.length = ks.length := Paired.length pr
  refine Calls.call_function_entry PyProof.Rows.kind_sorted PyProof.Rows.plain_sorted PyProof.Rows.entry_sorted (PyProof.Rows.args_sorted1 _) ?_
  unfold Builtin.«sorted»
  refine wpAny_bind (m := checkCount "sorted" 1 1 _) (wpAny_pure ?_)
  refine wpAny_bind (PySem.W.kdu_collect (A := X.A.in1) (kdl_raw hs hx hdt) (show X.A.in1.handled = none from I.ok.hd hc) ho (by omega) fun h' tk acc' kp it => ?_)
  have ea : acc'.toList = ks.map fun x => Value.ref x.2.1 := by
    have hl : acc'.toList.length = ks.length := by rw [Array.length_toList, it.1]; exact l1
    apply List.ext_getElem?
    intro j
    rw [List.getElem?_map]
    cases hj : acc'.toList[j]? with
    | none =>
      have h1 := List.getElem?_eq_none_iff.mp hj
      rw [List.getElem?_eq_none (by omega)]
      all_goals rfl
    | some v =>
      obtain ⟨en, hen, hv⟩ := it.2 j v (by rw [← Array.getElem?_toList]; exact hj)
      have qe := entry_at he j
      rw [hen] at qe
      cases hb : ks[j]? with
      | none =>
        rw [hb] at qe
        exact nomatch (show some en = none from qe)
      | some b =>
        rw [hb] at qe
        have e2 : en = entryOfKey (tupleKind (mixKind X.prog X.w)) b := Option.some.inj qe
        rw [hv, e2]
        all_goals rfl
  have I1 : Inv X pins σ H { s with heap := h', toks := tk } := I.kept kp
  -- the keys, each a tuple of its ints
  have pk : Paired (fun (x : Value) (c : List Int) => ∃ b : Addr, x = .ref b ∧ H b = some (.tup (c.map V.int))) acc'.toList cs := by
    rw [ea]
    have : ∀ {kvs : List (List L2.Key × V)} {ks : List (List L2.Key × Addr × Value)} {cs : List (List Int)}, Paired (fun (p : List L2.Key × V) (q : List L2.Key × Addr × Value) => p.1 = q.1 ∧ H q.2.1 = some (.tup (p.1.map kV)) ∧ RelV p.2 q.2.2) kvs ks →
        kvs.map (·.1) = cs.map (fun c => c.map Sum.inl) → Paired (fun (x : Value) (c : List Int) => ∃ b : Addr, x = .ref b ∧ H b = some (.tup (c.map V.int))) (ks.map fun x => Value.ref x.2.1) cs := by
      intro kvs ks cs p
      induction p generalizing cs with
      | nil => intro e; cases cs with
        | nil => exact .nil
        | cons _ _ => cases e
      | @cons p q ps qs h t ih => intro e; cases cs with
        | nil => cases e
        | cons c cs =>
          simp only [List.map_cons, List.cons.injEq] at e
          refine .cons ⟨q.2.1, rfl, ?_⟩ (ih e.2)
          have h2 := h.2.1
          rw [e.1, List.map_map] at h2
          exact h2
    exact this pr hks
  have hlen : acc'.toList.length = cs.length := Paired.length pk
  have hz2 : acc'.toList.length ≤ sizeLine := by rw [ea, List.length_map]; omega
  refine wpAny_bind (wpAny_newList ?_ hz2)
  have hoL : (h'.push (seqObj "list" acc'.toList.toArray 0)).get? h'.objs.size = some (seqObj "list" acc'.toList.toArray 0) := Heap.get?_push_size _ rfl
  show wpAny _ _ _ _ _ { s with heap := h'.push (seqObj "list" acc'.toList.toArray 0), toks := tk }
  -- what the items read as, in the heap of the sort
  have er : EachIs (fun (v : Value) (c : List Int) => ∃ as, Reads (PySem.W.sortingHeap (h'.push (seqObj "list" acc'.toList.toArray 0)) h'.objs.size acc'.toList) v (encC c) as) acc'.toList cs := by
    have : ∀ {xs : List Value} {cs : List (List Int)}, Paired (fun (x : Value) (c : List Int) => ∃ b : Addr, x = .ref b ∧ H b = some (.tup (c.map V.int))) xs cs →
        EachIs (fun (v : Value) (c : List Int) => ∃ as, Reads (PySem.W.sortingHeap (h'.push (seqObj "list" acc'.toList.toArray 0)) h'.objs.size acc'.toList) v (encC c) as) xs cs := by
      intro xs cs p
      induction p with
      | nil => exact .nil
      | cons h t ih =>
        refine .cons ?_ ih
        obtain ⟨b, rfl, hb⟩ := h
        obtain ⟨as, rd⟩ := Dp.reads I1 _ _ _ (dp_crowd (K := X.K) hb) rfl
        refine ⟨as, PyProof.Rows.Reads.keeps (fun b' o' e => ?_) rd⟩
        exact PySem.W.sortingHeap_old (Nat.ne_of_lt (Heap.lt_size e)) (Heap.get?_push_of_some _ e)
    exact this pk
  have hal : AllAlike (cs.map encC) := PySem.W.AllAlike.of encC_alike
  have hso : Sortable (cs.map encC) := .inl fun dd hdd => by
    obtain ⟨c, hc', rfl⟩ := List.mem_map.mp hdd
    cases c with
    | nil => exact absurd rfl (hne _ hc')
    | cons x r => exact ⟨_, _, rfl⟩
  have ep1 : EachIs (fun (v : Value) (c : List Int) => ∃ b : Addr, v = .ref b ∧ H b = some (.tup (c.map V.int))) acc'.toList cs := by
    have : ∀ {xs : List Value} {cs : List (List Int)}, Paired (fun (x : Value) (c : List Int) => ∃ b : Addr, x = .ref b ∧ H b = some (.tup (c.map V.int))) xs cs → EachIs (fun (v : Value) (c : List Int) => ∃ b : Addr, v = .ref b ∧ H b = some (.tup (c.map V.int))) xs cs := by
      intro xs cs p
      induction p with
      | nil => exact .nil
      | cons h t ih => exact .cons h ih
    exact this pk
  refine wpAny_bind (wpAny_holding (wpAny_call_entry PyProof.Rows.slot_list_sort ⟨_, hoL, rfl⟩ PyProof.Rows.entry_list_sort
    (PySem.W.list_sort_vals (s := { s with heap := h'.push (seqObj "list" acc'.toList.toArray 0), toks := tk }) (κ := dataKind (PySem.W.sortingHeap (h'.push (seqObj "list" acc'.toList.toArray 0)) h'.objs.size acc'.toList) (cs.map encC)) hoL
      (PySem.W.SortsAt.data (PySem.W.each_map (R := fun v dd => ∃ as, Reads _ v dd as) encC er) hal hso (fun dd hdd => ?_)) hz2 ⟨_, rfl, ?_⟩) (PyProof.Rows.args_list_sort _)))
  · obtain ⟨c, _, rfl⟩ := List.mem_map.mp hdd
    have := depth_encC c
    show X.A.units + 1 + 1 + (encC c).depth < cLine
    omega
  · have es2 := PySem.W.sortVals_data (h' := PySem.W.sortingHeap (h'.push (seqObj "list" acc'.toList.toArray 0)) h'.objs.size acc'.toList) false ep1 er hal
    obtain ⟨e', he'⟩ := PyProof.Rows.sortedHeap_at (vs := acc'.toList) (out := (PySem.W.sortVals (dataKind (PySem.W.sortingHeap (h'.push (seqObj "list" acc'.toList.toArray 0)) h'.objs.size acc'.toList) (cs.map encC)) false acc'.toList acc'.toList).toArray) hoL
    generalize PySem.W.sortVals (dataKind (PySem.W.sortingHeap (h'.push (seqObj "list" acc'.toList.toArray 0)) h'.objs.size acc'.toList) (cs.map encC)) false acc'.toList acc'.toList = out at es2 he' ⊢
    obtain ⟨bs, eb, pb⟩ : ∃ bs : List Addr, out = bs.map Value.ref ∧ Paired (fun b c => H b = some (.tup (c.map V.int))) bs (cs.mergeSort (dataLe false encC)) := by
      have : ∀ {out : List Value} {zs : List (List Int)}, EachIs (fun (v : Value) (c : List Int) => ∃ b : Addr, v = .ref b ∧ H b = some (.tup (c.map V.int))) out zs → ∃ bs : List Addr, out = bs.map Value.ref ∧ Paired (fun b c => H b = some (.tup (c.map V.int))) bs zs := by
        intro out zs p
        induction p with
        | nil => exact ⟨[], rfl, .nil⟩
        | cons h _ ih =>
          obtain ⟨b, rfl, hb⟩ := h
          obtain ⟨bs, rfl, pb⟩ := ih
          exact ⟨b :: bs, rfl, .cons hb pb⟩
      exact this es2
    subst eb
    have hlb : (bs.map V.ref).length ≤ sizeLine := by
      rw [List.length_map, pb.length, List.length_mergeSort, ← hlen]; exact hz2
    refine wpAny_pure ⟨_, rfl, .ref h'.objs.size, upd H h'.objs.size (.lst (bs.map V.ref)), I1.laid (t' := tk) (fun b u e => ?_) (Nat.le_refl _) (show ObjOk X.prog X.w _ _ _ (.lst (bs.map V.ref)) from ⟨hlb, bs.map Value.ref, e', vals_refs bs, he'⟩), rfl, q _ bs (I1.hok.fresh (Nat.le_refl _)) pb⟩
    have hb : b < h'.objs.size := Heap.lt_size e
    rw [PyProof.Rows.sortedHeap_old (Nat.ne_of_lt hb) (by rw [size_push']; exact Nat.lt_succ_of_lt hb)]
    exact Heap.get?_push_of_some _ e
end
end Pf

set_option Elab.async false
set_option linter.all false
set_option maxRecDepth 100000
set_option maxHeartbeats 4000000
namespace Pf
open PySem PySem.Spec PyProof.Rows L2
section
variable {prog : Program} {w : World} {A : Around} {E : Value → Shared → Prop} {s : Shared} {l : Addr} {xs : Array (Int × Tok)} {its : List Value} {ns : List Int} {Q : Value → Shared → Prop}
theorem sum_intTup (hh : A.handled = none) (hl : s.heap.IsTuple l (intItems xs))
    (h : ∀ h' tk t', (∀ b o, s.heap.get? b = some o → h'.get? b = some o) → Q (.int (preSum (numAt xs) xs.size) t') { s with heap := h', toks := tk }) :
    wpAny (model prog w) A (call (.builtin "sum") [.ref l]) Q E s := by
  have hlt : l < s.heap.objs.size := by obtain ⟨_, e, _⟩ := hl; exact Heap.lt_size e
  refine call_sum_walkG (wpAny_pyIter_tuple hl ?_)
  refine ⟨_, _, _, _, _, _, numAt xs, rfl, Walks.tuple (A := A.in1) hh _ l (Nat.ne_of_lt hlt) (intItems xs), ⟨⟨_, Heap.get?_push_size _ rfl, rfl, rfl⟩, hl.push _⟩, ?_, (fun _ _ => intItems_at), fun h' tk t' hk => ?_⟩
  · intro b hb
    show b < (s.heap.push _).objs.size
    rw [Heap.size_push]
    rcases List.mem_cons.mp hb with rfl | hb
    · exact Nat.lt_succ_self _
    · rcases List.mem_cons.mp hb with rfl | hb
      · exact Nat.lt_succ_of_lt hlt
      · cases hb
  · have := h h' tk t' (fun b o e => hk b o (by simp only [List.mem_singleton]; exact Nat.ne_of_lt (Heap.lt_size e)) (Heap.get?_push_of_some _ e))
    simpa [intItems] using this
theorem sumT_raw (hh : A.handled = none) (hl : s.heap.IsTuple l its.toArray) (hi : IntsAre its ns)
    (h : ∀ h' tk t', (∀ b o, s.heap.get? b = some o → h'.get? b = some o) → Q (.int ns.sum t') { s with heap := h', toks := tk }) : wpAny (model prog w) A (call (.builtin "sum") [.ref l]) Q E s := by
  obtain ⟨xs, e⟩ := hi.allInts.items
  have hn : numsOf (intItems xs).toList = ns := by rw [← e]; exact hi.numsOf
  rw [nums_intItems] at hn
  rw [e] at hl
  refine sum_intTup hh hl fun h' tk t' hk => ?_
  have := h h' tk t' hk
  rw [preSum_eq, List.take_of_length_le (by simp), hn]; exact this
end
section
variable {X : Cx}
def rSumT (K : PySem.W.Frag) : List V → Hp → VK → Prop := fun vs H Q => ∃ (a : Addr) (ns : List Int), vs = [V.ref a] ∧ SqT K H a (ns.map V.int) ∧ Q (.int ns.sum) H
theorem cr_sumT (hc : X.calm = true) : CallR X (.builtin "sum") (rSumT X.K) := by
  intro pins s σ H vs us Q I r h
  obtain ⟨a, ns, rfl, hs, q⟩ := h
  obtain ⟨its, rv, hl, _⟩ := I.tuple hs
  rw [Vals.ref1 r]
  exact sumT_raw (I.ok.hd hc) hl rv.ints fun h' tk t' hk => ⟨.int _, H, I.kept hk, ⟨_, rfl⟩, q⟩
theorem tuple_mul1 (l : Addr) (items : Array Value) (n : Nat) (dd : Option Addr) (sl : Array (Option Value)) (u : Tok) :
    Meets (Builtin.«tuple.__mul__» ⟨[.ref l, .int 1 u], []⟩) (fun _ R s => s.heap.get? l = some { cls := .type "tuple", dict := dd, data := .seq items n, slots := sl } ∧ R (.ok (.ret (Value.ref l))) s) :=
  .of_wp fun prog w A R s h => by
    obtain ⟨hp, g, d, tk, os⟩ := s
    obtain ⟨hl, h⟩ := h
    have f1 := AutoSeq1.idx_int
    have c0 : (decide ((1 : Int) < -(2 ^ 63)) || decide ((1 : Int) ≥ 2 ^ 63)) = false := by decide
    have c1 : (items.isEmpty || (1 : Int) == 1) = true := by simp
    wp_walk using wpAny_loadPart' hl
    exact ⟨_, rfl, h⟩
/-- t * 1 -/
def rRepT1 (K : PySem.W.Frag) : R2 := fun x y H Q => ∃ l xs, x = .ref l ∧ y = .int 1 ∧ SqT K H l xs ∧ Q x H
theorem op_repT1 : OpR X (binaryOp .Mult) (rRepT1 X.K) := by
  intro pins s σ H x y v u Q I rx ry h
  obtain ⟨l, xs, rfl, rfl, hT, q⟩ := h
  cases rx
  obtain ⟨t, rfl⟩ := ry
  obtain ⟨its, r, ⟨⟨cls, dd, data, sl⟩, ho, hc, n, hd⟩, hs⟩ := I.tuple hT
  simp only at hc hd
  subst hc hd
  refine wpAny_binaryOp_repeat_ref (T := "tuple") (U := "int") (by decide) ⟨_, ho, rfl⟩ (fun s' => typeIs_int s' 1 t) noFill_tuple_mul F.fills_int_mul F.slot_int_rmul repeat_tuple F.slot_int_index.lookup
    (call_meets F.slot_int_rmul (typeIs_int s 1 t) F.entry_int_rmul (F.args_int_rmul_2 _ _) (int_rmul_tuple 1 t l its.toArray n dd sl)
      ⟨ho, rfl, ⟨_, ho, rfl⟩, call_meets F.slot_tuple_mul ⟨_, ho, rfl⟩ F.entry_tuple_mul (F.args_tuple_mul_2 _ _) (tuple_mul1 l its.toArray n dd sl t) ⟨ho, ?_⟩⟩)
  exact ⟨.ref l, H, I, rfl, q⟩
end
end Pf

set_option Elab.async false
set_option linter.all false
set_option maxRecDepth 100000
set_option maxHeartbeats 4000000
namespace Pf
open PySem L2
structure Le (H H' : Hp) : Prop where
  tup : ∀ b xs, H b = some (.tup xs) → H' b = some (.tup xs)
  lst : ∀ b xs, H b = some (.lst xs) → H' b = some (.lst xs)
  dct : ∀ b kvs, Rd H b (.dT kvs) → Rd H' b (.dT kvs)
theorem Le.refl (H : Hp) : Le H H := ⟨fun _ _ h => h, fun _ _ h => h, fun _ _ h => h⟩
theorem Le.trans {H H1 H2 : Hp} (a : Le H H1) (b : Le H1 H2) : Le H H2 :=
  ⟨fun c x h => b.tup c x (a.tup c x h), fun c x h => b.lst c x (a.lst c x h), fun c x h => b.dct c x (a.dct c x h)⟩
theorem Le.of {H H' : Hp} (e : Same H H') : Le H H' :=
  ⟨fun _ _ h => e _ _ h, fun _ _ h => e _ _ h, fun b kvs h => by
    rcases h with h | ⟨o, h⟩
    · exact Or.inl (e _ _ h)
    · exact Or.inr ⟨o, e _ _ h⟩⟩
/-- a dict is locked -/
theorem Le.lock {H : Hp} {d : Addr} {kvs : List (List L2.Key × V)} {od : Obj} (h : H d = some (.dT kvs)) : Le H (upd H d (.frz od (.dT kvs))) := by
  refine ⟨fun b xs e => ?_, fun b xs e => ?_, fun b ks e => ?_⟩
  · rw [upd_ne (ne_of e h (by intro z; cases z))]; exact e
  · rw [upd_ne (ne_of e h (by intro z; cases z))]; exact e
  · by_cases c : b = d
    · subst c
      rcases e with e | ⟨o, e⟩
      · rw [h] at e; cases e; exact Or.inr ⟨od, upd_same⟩
      · rw [h] at e; cases e
    · rcases e with e | ⟨o, e⟩
      · exact Or.inl (by rw [upd_ne c]; exact e)
      · exact Or.inr ⟨o, by rw [upd_ne c]; exact e⟩
theorem Le.unlock {H : Hp} {d : Addr} {kvs : List (List L2.Key × V)} {od : Obj} (h : H d = some (.frz od (.dT kvs))) : Le H (upd H d (.dT kvs)) := by
  refine ⟨fun b xs e => ?_, fun b xs e => ?_, fun b ks e => ?_⟩
  · rw [upd_ne (ne_of e h (by intro z; cases z))]; exact e
  · rw [upd_ne (ne_of e h (by intro z; cases z))]; exact e
  · by_cases c : b = d
    · subst c
      rcases e with e | ⟨o, e⟩
      · rw [h] at e; cases e
      · rw [h] at e; cases e; exact Or.inl upd_same
    · rcases e with e | ⟨o, e⟩
      · exact Or.inl (by rw [upd_ne c]; exact e)
      · exact Or.inr ⟨o, by rw [upd_ne c]; exact e⟩
theorem Same.new {H : Hp} {p : Addr} {o : HO} (h : H p = none) : Same H (upd H p o) := fun a u e => by
  rw [upd_ne (ne_of_none e h)]; exact e
/-- an object that H does not know may change -/
theorem Same.mut {H H' : Hp} {p : Addr} {o : HO} (e : Same H H') (h : H p = none) : Same H (upd H' p o) := fun a u ha => by
  rw [upd_ne (ne_of_none ha h)]; exact e a u ha
theorem Same.lock {H H' : Hp} {d : Addr} {u : HO} {f : HO} (h : H d = some u) (e : Same (upd H d f) H') : Same H (upd H' d u) := fun b o q => by
  by_cases c : b = d
  · subst c; rw [h] at q; cases q; exact upd_same
  · rw [upd_ne c]; exact e b o (by rw [upd_ne c]; exact q)
theorem Same.lock2 {H H' : Hp} {d : Addr} {u f : HO} (e : Same H H') : Same (upd H d f) (upd H' d f) := fun b o q => by
  by_cases c : b = d
  · subst c; rw [upd_same] at q; cases q; exact upd_same
  · rw [upd_ne c] at q; rw [upd_ne c]; exact e b o q

abbrev Rl (α : Type) := Hp → V → α → Prop
class Mo {α : Type} (r : Rl α) : Prop where
  le : ∀ {H H' : Hp} {v : V} {x : α}, Le H H' → r H v x → r H' v x
class Ms {α : Type} (r : Rl α) : Prop where
  sm : ∀ {H H' : Hp} {v : V} {x : α}, Same H H' → r H v x → r H' v x
instance {α : Type} {r : Rl α} [Mo r] : Ms r := ⟨fun e h => Mo.le (Le.of e) h⟩
theorem Mo.mo {α : Type} {r : Rl α} [Ms r] {H H' : Hp} {v : V} {x : α} (e : Same H H') (h : r H v x) : r H' v x := Ms.sm e h
def aI : Rl Int := fun _ v i => v = .int i
def aB : Rl Bool := fun _ v b => v = .bl b
def aS : Rl Str := fun _ v z => v = .str z
def aN : Rl Unit := fun _ v _ => v = .non
instance : Mo aI := ⟨fun _ h => h⟩
instance : Mo aB := ⟨fun _ h => h⟩
instance : Mo aS := ⟨fun _ h => h⟩
instance : Mo aN := ⟨fun _ h => h⟩
section
variable {α β γ : Type}
theorem Paired.imp {F G : α → β → Prop} {xs : List α} {ys : List β} (p : Paired F xs ys) (h : ∀ a b, F a b → G a b) : Paired G xs ys := Paired.mono h p
theorem Paired.get {F : α → β → Prop} : ∀ {xs : List α} {ys : List β} {i : Nat} {x : α}, Paired F xs ys → xs[i]? = some x → ∃ y, ys[i]? = some y ∧ F x y
  | _, _, _, _, .nil, e => by simp at e
  | _, _, 0, _, .cons h _, e => by simp at e; subst e; exact ⟨_, rfl, h⟩
  | _, _, i + 1, _, .cons _ t, e => by
    obtain ⟨y, h1, h2⟩ := Paired.get (i := i) t (by simpa using e)
    exact ⟨y, by simpa using h1, h2⟩
theorem Paired.getr {F : α → β → Prop} : ∀ {xs : List α} {ys : List β} {i : Nat} {y : β}, Paired F xs ys → ys[i]? = some y → ∃ x, xs[i]? = some x ∧ F x y
  | _, _, _, _, .nil, e => by simp at e
  | _, _, 0, _, .cons h _, e => by simp at e; subst e; exact ⟨_, rfl, h⟩
  | _, _, i + 1, _, .cons _ t, e => by
    obtain ⟨y, h1, h2⟩ := Paired.getr (i := i) t (by simpa using e)
    exact ⟨y, by simpa using h1, h2⟩
theorem Paired.app {F : α → β → Prop} : ∀ {xs xs' : List α} {ys ys' : List β}, Paired F xs ys → Paired F xs' ys' → Paired F (xs ++ xs') (ys ++ ys')
  | _, _, _, _, .nil, h => h
  | _, _, _, _, .cons a t, h => .cons a (Paired.app t h)
theorem Paired.takeP {F : α → β → Prop} : ∀ {xs : List α} {ys : List β} (n : Nat), Paired F xs ys → Paired F (xs.take n) (ys.take n)
  | _, _, 0, _ => by simp; exact .nil
  | _, _, n + 1, .nil => .nil
  | _, _, n + 1, .cons a t => .cons a (Paired.takeP n t)
theorem Paired.dropP {F : α → β → Prop} : ∀ {xs : List α} {ys : List β} (n : Nat), Paired F xs ys → Paired F (xs.drop n) (ys.drop n)
  | _, _, 0, h => h
  | _, _, n + 1, .nil => .nil
  | _, _, n + 1, .cons _ t => Paired.dropP n t
theorem Paired.rev {F : α → β → Prop} : ∀ {xs : List α} {ys : List β}, Paired F xs ys → Paired F xs.reverse ys.reverse
  | _, _, .nil => .nil
  | _, _, .cons a t => by simp only [List.reverse_cons]; exact Paired.app (Paired.rev t) (.cons a .nil)
theorem Paired.setP {F : α → β → Prop} {x : α} {y : β} (h : F x y) : ∀ {xs : List α} {ys : List β} (n : Nat), Paired F xs ys → Paired F (xs.set n x) (ys.set n y)
  | _, _, _, .nil => .nil
  | _, _, 0, .cons _ t => .cons h t
  | _, _, n + 1, .cons a t => .cons a (Paired.setP h n t)
theorem Paired.of_map {F : α → β → Prop} {f : β → α} (h : ∀ b, F (f b) b) : ∀ ys : List β, Paired F (ys.map f) ys
  | [] => .nil
  | y :: ys => .cons (h y) (Paired.of_map h ys)
theorem Paired.dropLast {F : α → β → Prop} {xs : List α} {ys : List β} (p : Paired F xs ys) : Paired F xs.dropLast ys.dropLast := by
  have e := p.length
  rw [List.dropLast_eq_take, List.dropLast_eq_take, e]
  exact Paired.takeP _ p
/-- a tuple of such | a list of such | a pair | None or such -/
def aT (r : Rl α) : Rl (List α) := fun H v xs => ∃ a vs, v = .ref a ∧ H a = some (.tup vs) ∧ Paired (r H) vs xs
def aL (r : Rl α) : Rl (List α) := fun H v xs => ∃ a vs, v = .ref a ∧ H a = some (.lst vs) ∧ Paired (r H) vs xs
def aP (r : Rl α) (s : Rl β) : Rl (α × β) := fun H v p => ∃ a x y, v = .ref a ∧ H a = some (.tup [x, y]) ∧ r H x p.1 ∧ s H y p.2
def aO (r : Rl α) : Rl (Option α) := fun H v o => match o with
  | none => v = .non
  | some x => r H v x ∧ v ≠ .non
instance {r : Rl α} [Mo r] : Mo (aT r) := ⟨fun e ⟨a, vs, h1, h2, h3⟩ => ⟨a, vs, h1, e.tup _ _ h2, Paired.imp h3 fun _ _ q => Mo.le e q⟩⟩
instance {r : Rl α} [Mo r] : Mo (aL r) := ⟨fun e ⟨a, vs, h1, h2, h3⟩ => ⟨a, vs, h1, e.lst _ _ h2, Paired.imp h3 fun _ _ q => Mo.le e q⟩⟩
instance {r : Rl α} {s : Rl β} [Mo r] [Mo s] : Mo (aP r s) := ⟨fun e ⟨a, x, y, h1, h2, h3, h4⟩ => ⟨a, x, y, h1, e.tup _ _ h2, Mo.le e h3, Mo.le e h4⟩⟩
instance {r : Rl α} [Mo r] : Mo (aO r) := ⟨fun {H H' v x} e h => by cases x with | none => exact h | some y => exact ⟨Mo.le e h.1, h.2⟩⟩
/-- relations that lean on tuples alone: nothing that changes touches them -/
class Im {α : Type} (r : Rl α) : Prop where
  im : ∀ {H H' : Hp} {v : V} {x : α}, (∀ a xs, H a = some (.tup xs) → H' a = some (.tup xs)) → r H v x → r H' v x
instance : Im aI := ⟨fun _ h => h⟩
instance : Im aB := ⟨fun _ h => h⟩
instance : Im aS := ⟨fun _ h => h⟩
instance : Im aN := ⟨fun _ h => h⟩
instance {r : Rl α} [Im r] : Im (aT r) := ⟨fun e ⟨a, vs, h1, h2, h3⟩ => ⟨a, vs, h1, e _ _ h2, Paired.imp h3 fun _ _ q => Im.im e q⟩⟩
instance {r : Rl α} {s : Rl β} [Im r] [Im s] : Im (aP r s) := ⟨fun e ⟨a, x, y, h1, h2, h3, h4⟩ => ⟨a, x, y, h1, e _ _ h2, Im.im e h3, Im.im e h4⟩⟩
instance {r : Rl α} [Im r] : Im (aO r) := ⟨fun {H H' v x} e h => by cases x with | none => exact h | some y => exact ⟨Im.im e h.1, h.2⟩⟩
/-- .. under a write to what is no tuple -/
theorem Im.up {r : Rl α} [Im r] {H : Hp} {l : Addr} {o : HO} {v : V} {x : α} (hl : ∀ xs, H l ≠ some (.tup xs)) (h : r H v x) : r (upd H l o) v x :=
  Im.im (fun a xs e => by rw [upd_ne (fun z => hl xs (by rw [← z]; exact e))]; exact e) h
theorem Im.upL {r : Rl α} [Im r] {H : Hp} {l : Addr} {o : HO} {ys : List V} {v : V} {x : α} (hl : H l = some (.lst ys)) (h : r H v x) : r (upd H l o) v x :=
  Im.up (fun xs e => by rw [hl] at e; cases e) h
theorem Im.upD {r : Rl α} [Im r] {H : Hp} {l : Addr} {o : HO} {kvs : List (List L2.Key × V)} {v : V} {x : α} (hl : H l = some (.dT kvs)) (h : r H v x) : r (upd H l o) v x :=
  Im.up (fun xs e => by rw [hl] at e; cases e) h
theorem paired_int {H : Hp} : ∀ {vs : List V} {ns : List Int}, Paired (aI H) vs ns → vs = ns.map V.int
  | _, _, .nil => rfl
  | _, _, .cons h t => by have e := paired_int t; cases h; rw [e]; rfl
theorem paired_bl {H : Hp} : ∀ {vs : List V} {ns : List Bool}, Paired (aB H) vs ns → vs = ns.map V.bl
  | _, _, .nil => rfl
  | _, _, .cons h t => by have e := paired_bl t; cases h; rw [e]; rfl
theorem int_paired (H : Hp) (ns : List Int) : Paired (aI H) (ns.map V.int) ns := Paired.of_map (F := aI H) (f := V.int) (fun _ => rfl) ns
theorem bl_paired (H : Hp) (ns : List Bool) : Paired (aB H) (ns.map V.bl) ns := Paired.of_map (F := aB H) (f := V.bl) (fun _ => rfl) ns
theorem aTI_iff {H : Hp} {v : V} {ns : List Int} : aT aI H v ns ↔ ∃ a, v = .ref a ∧ H a = some (.tup (ns.map V.int)) :=
  ⟨fun ⟨a, vs, h1, h2, h3⟩ => ⟨a, h1, by rw [h2, paired_int h3]⟩, fun ⟨a, h1, h2⟩ => ⟨a, _, h1, h2, int_paired H ns⟩⟩
/-- a key of ints -/
def kk (c : List Int) : List L2.Key := c.map Sum.inl
theorem kk_kV (c : List Int) : (kk c).map kV = c.map V.int := by
  unfold kk; rw [List.map_map]; rfl
theorem kk_inj {a b : List Int} (h : kk a = kk b) : a = b := by
  unfold kk at h
  induction a generalizing b with
  | nil => cases b with
    | nil => rfl
    | cons _ _ => cases h
  | cons x xs ih => cases b with
    | nil => cases h
    | cons y ys =>
      simp only [List.map_cons, List.cons.injEq] at h
      rw [Sum.inl.inj h.1, ih h.2]
theorem kk_eq {a b : List Int} : kk a = kk b ↔ a = b := ⟨kk_inj, fun h => by rw [h]⟩
/-- a dict with tuples of ints as keys, read -/
def KvP (r : Rl β) (H : Hp) (kvs : List (List L2.Key × V)) (g : List (List Int × β)) : Prop := Paired (fun p q => p.1 = kk q.1 ∧ r H p.2 q.2) kvs g
def aD (r : Rl β) : Rl (List (List Int × β)) := fun H v g => ∃ d kvs, v = .ref d ∧ Rd H d (.dT kvs) ∧ KvP r H kvs g
theorem KvP.le {r : Rl β} [Mo r] {H H' : Hp} {kvs : List (List L2.Key × V)} {g : List (List Int × β)} (e : Le H H') (h : KvP r H kvs g) : KvP r H' kvs g :=
  Paired.imp h fun _ _ q => ⟨q.1, Mo.le e q.2⟩
instance {r : Rl β} [Mo r] : Mo (aD r) := ⟨fun e ⟨d, kvs, h1, h2, h3⟩ => ⟨d, kvs, h1, e.dct _ _ h2, KvP.le e h3⟩⟩
theorem KvP.sm {r : Rl β} [Ms r] {H H' : Hp} {kvs : List (List L2.Key × V)} {g : List (List Int × β)} (e : Same H H') (h : KvP r H kvs g) : KvP r H' kvs g :=
  Paired.imp h fun _ _ q => ⟨q.1, Mo.mo e q.2⟩
instance {r : Rl β} [Ms r] : Ms (aD r) := ⟨fun e ⟨d, kvs, h1, h2, h3⟩ => ⟨d, kvs, h1, (Le.of e).dct _ _ h2, KvP.sm e h3⟩⟩
instance {r : Rl α} [Ms r] : Ms (aT r) := ⟨fun e ⟨a, vs, h1, h2, h3⟩ => ⟨a, vs, h1, e _ _ h2, Paired.imp h3 fun _ _ q => Mo.mo e q⟩⟩
instance {r : Rl α} [Ms r] : Ms (aL r) := ⟨fun e ⟨a, vs, h1, h2, h3⟩ => ⟨a, vs, h1, e _ _ h2, Paired.imp h3 fun _ _ q => Mo.mo e q⟩⟩
instance {r : Rl α} {s : Rl β} [Ms r] [Ms s] : Ms (aP r s) := ⟨fun e ⟨a, x, y, h1, h2, h3, h4⟩ => ⟨a, x, y, h1, e _ _ h2, Mo.mo e h3, Mo.mo e h4⟩⟩
instance {r : Rl α} [Ms r] : Ms (aO r) := ⟨fun {H H' v x} e h => by cases x with | none => exact h | some y => exact ⟨Mo.mo e h.1, h.2⟩⟩
/-- a dict that is not locked; such, of which more is known -/
def aU (r : Rl β) : Rl (List (List Int × β)) := fun H v g => ∃ d kvs, v = .ref d ∧ H d = some (.dT kvs) ∧ KvP r H kvs g
instance {r : Rl β} [Ms r] : Ms (aU r) := ⟨fun e ⟨d, kvs, h1, h2, h3⟩ => ⟨d, kvs, h1, e _ _ h2, KvP.sm e h3⟩⟩
theorem aU.d {r : Rl β} {H : Hp} {v : V} {g : List (List Int × β)} (h : aU r H v g) : aD r H v g := by
  obtain ⟨d, kvs, h1, h2, h3⟩ := h
  exact ⟨d, kvs, h1, Rd.of h2, h3⟩
def aE (r : Rl α) (post : α → Prop) : Rl Unit := fun H v _ => ∃ x, r H v x ∧ post x
instance {r : Rl α} {post : α → Prop} [Ms r] : Ms (aE r post) := ⟨fun e ⟨x, h1, h2⟩ => ⟨x, Mo.mo e h1, h2⟩⟩
/-- the look into such a table -/
def look (g : List (List Int × β)) (c : List Int) : Option β := (g.find? fun p => decide (p.1 = c)).map (·.2)
theorem look_nil (c : List Int) : look ([] : List (List Int × β)) c = none := rfl
theorem look_cons (p : List Int × β) (g : List (List Int × β)) (c : List Int) : look (p :: g) c = if p.1 = c then some p.2 else look g c := by
  unfold look
  rw [List.find?_cons]
  by_cases h : p.1 = c
  · simp [h]
  · simp [h]
theorem valV_cons {κ : Type} [DecidableEq κ] (p : κ × V) (g : List (κ × V)) (c : κ) : valV (p :: g) c = if p.1 = c then some p.2 else valV g c := by
  by_cases h : p.1 = c
  · rw [valV_pos h, if_pos h]
  · rw [valV_neg h, if_neg h]
theorem KvP.lk {r : Rl β} {H : Hp} : ∀ {kvs : List (List L2.Key × V)} {g : List (List Int × β)} (c : List Int), KvP r H kvs g →
    (valV kvs (kk c) = none ∧ look g c = none) ∨ ∃ v x, valV kvs (kk c) = some v ∧ look g c = some x ∧ r H v x
  | _, _, _, .nil => Or.inl ⟨rfl, rfl⟩
  | p :: kvs, q :: g, c, .cons h t => by
    rw [valV_cons, look_cons]
    by_cases e : q.1 = c
    · have e1 : p.1 = kk c := by rw [h.1, e]
      rw [if_pos e1, if_pos e]
      exact Or.inr ⟨_, _, rfl, rfl, h.2⟩
    · have e1 : ¬ p.1 = kk c := fun z => e (kk_inj (h.1.symm.trans z))
      rw [if_neg e1, if_neg e]
      exact KvP.lk c t
theorem KvP.yes {r : Rl β} {H : Hp} {kvs : List (List L2.Key × V)} {g : List (List Int × β)} {c : List Int} {x : β} (h : KvP r H kvs g) (e : look g c = some x) : ∃ v, valV kvs (kk c) = some v ∧ r H v x := by
  rcases KvP.lk c h with ⟨_, h2⟩ | ⟨v, y, h1, h2, h3⟩
  · rw [h2] at e; cases e
  · rw [h2] at e; cases e; exact ⟨v, h1, h3⟩
theorem KvP.no {r : Rl β} {H : Hp} {kvs : List (List L2.Key × V)} {g : List (List Int × β)} {c : List Int} (h : KvP r H kvs g) (e : look g c = none) : valV kvs (kk c) = none := by
  rcases KvP.lk c h with ⟨h1, _⟩ | ⟨v, y, _, h2, _⟩
  · exact h1
  · rw [h2] at e; cases e
theorem KvP.both {r : Rl β} {H : Hp} {kvs : List (List L2.Key × V)} {g : List (List Int × β)} (c : List Int) (h : KvP r H kvs g) : (valV kvs (kk c)).isSome = (look g c).isSome := by
  rcases KvP.lk c h with ⟨h1, h2⟩ | ⟨v, y, h1, h2, _⟩ <;> rw [h1, h2] <;> rfl
theorem KvP.keys {r : Rl β} {H : Hp} : ∀ {kvs : List (List L2.Key × V)} {g : List (List Int × β)}, KvP r H kvs g → kvs.map (·.1) = g.map fun p => kk p.1
  | _, _, .nil => rfl
  | _, _, .cons h t => by simp only [List.map_cons]; rw [h.1, KvP.keys t]
theorem KvP.snoc {r : Rl β} {H : Hp} {kvs : List (List L2.Key × V)} {g : List (List Int × β)} {c : List Int} {v : V} {x : β} (h : KvP r H kvs g) (hr : r H v x) : KvP r H (kvs ++ [(kk c, v)]) (g ++ [(c, x)]) :=
  Paired.app h (.cons ⟨rfl, hr⟩ .nil)
theorem look_snoc {g : List (List Int × β)} {c k : List Int} {x : β} (h : look g c = none) : look (g ++ [(c, x)]) k = if k = c then some x else look g k := by
  induction g with
  | nil =>
    rw [List.nil_append, look_cons]
    by_cases e : c = k
    · rw [if_pos e, if_pos e.symm]
    · rw [if_neg e, if_neg (Ne.symm e)]
  | cons p g ih =>
    rw [look_cons] at h
    rw [List.cons_append, look_cons, look_cons]
    by_cases e : p.1 = c
    · rw [if_pos e] at h; cases h
    · rw [if_neg e] at h
      rw [ih h]
      by_cases e2 : p.1 = k
      · have : ¬ k = c := fun z => e (e2.trans z)
        rw [if_pos e2, if_neg this, if_pos e2]
      · rw [if_neg e2, if_neg e2]
theorem look_isSome_iff {g : List (List Int × β)} {c : List Int} : (look g c).isSome = true ↔ c ∈ g.map (·.1) := by
  induction g with
  | nil => simp [look_nil]
  | cons p g ih =>
    rw [look_cons]
    by_cases e : p.1 = c
    · rw [if_pos e]; simp [e]
    · rw [if_neg e, ih]; simp [Ne.symm e]
theorem look_none_iff {g : List (List Int × β)} {c : List Int} : look g c = none ↔ c ∉ g.map (·.1) := by
  rw [← look_isSome_iff]
  cases look g c <;> simp
theorem look_mem {g : List (List Int × β)} {c : List Int} {x : β} (h : look g c = some x) : (c, x) ∈ g := by
  induction g with
  | nil => cases h
  | cons p g ih =>
    rw [look_cons] at h
    by_cases e : p.1 = c
    · rw [if_pos e] at h
      have e2 := Option.some.inj h
      rw [← e, ← e2]
      exact List.mem_cons_self
    · rw [if_neg e] at h
      exact List.mem_cons_of_mem _ (ih h)
end

def Ed {α : Type} (te : TE) (σ : L2.St) (H : Hp) (r : Rl α) (x : α) : Prop := ∀ H1, Same H H1 → ∀ Q : VK, (∀ v H2, Same H1 H2 → r H2 v x → Q v H2) → te σ H1 Q
def EdT (tt : TT) (σ : L2.St) (H : Hp) (b : Bool) : Prop := ∀ H1, Same H H1 → ∀ Q : Bool → Hp → Prop, (∀ H2, Same H1 H2 → Q b H2) → tt σ H1 Q
def EdA (ta : TA) (σ : L2.St) (H : Hp) (R : Hp → List V → Prop) : Prop := ∀ H1, Same H H1 → ∀ Q : List V → Hp → Prop, (∀ vs H2, Same H1 H2 → R H2 vs → Q vs H2) → ta σ H1 Q
section
variable {α β γ δ : Type} {K : PySem.W.Frag} {σ : L2.St} {H H' : Hp} {ta tb tc te : TE} {tt tu : TT} {r : Rl α} {s : Rl β} {x : α} {y : β} {i j : Int} {b c : Bool}
theorem Ed.mono (e : Same H H') (h : Ed te σ H r x) : Ed te σ H' r x := fun H1 a Q q => h H1 (e.trans a) Q q
theorem EdT.mono (e : Same H H') (h : EdT tt σ H b) : EdT tt σ H' b := fun H1 a Q q => h H1 (e.trans a) Q q
theorem ed_is {y : α} (h : Ed te σ H r x) (e : x = y) : Ed te σ H r y := e ▸ h
theorem et_is (h : EdT tt σ H b) (e : b = c) : EdT tt σ H c := e ▸ h
/-- another reading of the same value -/
theorem ed_as (h : Ed te σ H r x) (f : ∀ H' v, r H' v x → s H' v y) : Ed te σ H s y := fun H1 e Q q => h H1 e Q fun v H2 e2 hv => q v H2 e2 (f _ _ hv)
theorem ed_var [Ms r] {i : Nat} {v : V} (h : σ[i]? = some (some v)) (hr : r H v x) : Ed (tVar i) σ H r x := fun H1 e _ q => ⟨v, h, q v H1 (Same.refl H1) (Mo.mo e hr)⟩
theorem ed_c {v : V} (hr : ∀ H', r H' v x) : Ed (tC v) σ H r x := fun H1 _ _ q => q v H1 (Same.refl H1) (hr H1)
theorem ed_i {i : Int} : Ed (tC (.int i)) σ H aI i := ed_c fun _ => rfl
theorem ed_b {b : Bool} : Ed (tC (.bl b)) σ H aB b := ed_c fun _ => rfl
theorem ed_s {z : Str} : Ed (tC (.str z)) σ H aS z := ed_c fun _ => rfl
theorem ed_n : Ed (tC .non) σ H aN () := ed_c fun _ => rfl
/-- two operands -/
theorem ed_op {γ : Type} {t : Rl γ} {z : γ} [Ms r] {rr : R2} (ha : Ed ta σ H r x) (hb : Ed tb σ H s y) (hr : ∀ H1, Same H H1 → ∀ v u, r H1 v x → s H1 u y → ∀ Q : VK, (∀ w H2, Same H1 H2 → t H2 w z → Q w H2) → rr v u H1 Q) : Ed (tOp rr ta tb) σ H t z := fun H1 e Q q =>
  ha H1 e _ fun v H2 e2 hv => hb H2 (e.trans e2) _ fun u H3 e3 hu => hr H3 ((e.trans e2).trans e3) v u (Mo.mo e3 hv) hu Q fun w H4 e4 hw => q w H4 ((e2.trans e3).trans e4) hw
theorem ed_I0 {t : Rl γ} {z : γ} {g : Int → Int → V} (ha : Ed ta σ H aI i) (hb : Ed tb σ H aI j) (hg : ∀ H', t H' (g i j) z) : Ed (tOp (rI0 g) ta tb) σ H t z :=
  ed_op ha hb fun H1 _ v u hv hu Q q => ⟨i, j, hv, hu, q _ H1 (Same.refl _) (hg _)⟩
theorem ed_IC {t : Rl γ} {z : γ} {C : Int → Int → Prop} {g : Int → Int → V} (ha : Ed ta σ H aI i) (hb : Ed tb σ H aI j) (hc : C i j) (hg : ∀ H', t H' (g i j) z) : Ed (tOp (L2.rI C g) ta tb) σ H t z :=
  ed_op ha hb fun H1 _ v u hv hu Q q => ⟨i, j, hv, hu, hc, q _ H1 (Same.refl _) (hg _)⟩
theorem ed_add (ha : Ed ta σ H aI i) (hb : Ed tb σ H aI j) : Ed (tOp (rI0 fun i j => V.int (i + j)) ta tb) σ H aI (i + j) := ed_I0 ha hb fun _ => rfl
theorem ed_sub (ha : Ed ta σ H aI i) (hb : Ed tb σ H aI j) : Ed (tOp (rI0 fun i j => V.int (i - j)) ta tb) σ H aI (i - j) := ed_I0 ha hb fun _ => rfl
theorem ed_mul (ha : Ed ta σ H aI i) (hb : Ed tb σ H aI j) (hc : CMul i j) : Ed (tOp (L2.rI CMul fun i j => V.int (i * j)) ta tb) σ H aI (i * j) := ed_IC ha hb hc fun _ => rfl
theorem ed_mod (ha : Ed ta σ H aI i) (hb : Ed tb σ H aI j) (hc : 0 < j) : Ed (tOp (L2.rI (fun _ j => 0 < j) fun i j => V.int (i % j)) ta tb) σ H aI (i % j) := ed_IC ha hb hc fun _ => rfl
theorem ed_fdiv (ha : Ed ta σ H aI i) (hb : Ed tb σ H aI j) (hc : CDiv i j) : Ed (tOp (L2.rI CDiv fun i j => V.int (i / j)) ta tb) σ H aI (i / j) := ed_IC ha hb hc fun _ => rfl
theorem ed_lt (ha : Ed ta σ H aI i) (hb : Ed tb σ H aI j) : Ed (tOp (rI0 fun i j => V.bl (decide (i < j))) ta tb) σ H aB (decide (i < j)) := ed_I0 ha hb fun _ => rfl
theorem ed_le (ha : Ed ta σ H aI i) (hb : Ed tb σ H aI j) : Ed (tOp (rI0 fun i j => V.bl (decide (i ≤ j))) ta tb) σ H aB (decide (i ≤ j)) := ed_I0 ha hb fun _ => rfl
theorem ed_gt (ha : Ed ta σ H aI i) (hb : Ed tb σ H aI j) : Ed (tOp (rI0 fun i j => V.bl (decide (j < i))) ta tb) σ H aB (decide (j < i)) := ed_I0 ha hb fun _ => rfl
theorem ed_ge (ha : Ed ta σ H aI i) (hb : Ed tb σ H aI j) : Ed (tOp (rI0 fun i j => V.bl (decide (j ≤ i))) ta tb) σ H aB (decide (j ≤ i)) := ed_I0 ha hb fun _ => rfl
theorem ed_eqI (ha : Ed ta σ H aI i) (hb : Ed tb σ H aI j) : Ed (tOp rEq ta tb) σ H aB (decide (i = j)) :=
  ed_op ha hb fun H1 _ v u hv hu Q q => by
    cases hv; cases hu
    exact ⟨rfl, q _ H1 (Same.refl _) (by show V.bl _ = V.bl _; congr 1; simp)⟩
theorem ed_neI (ha : Ed ta σ H aI i) (hb : Ed tb σ H aI j) : Ed (tOp rNe ta tb) σ H aB (!decide (i = j)) :=
  ed_op ha hb fun H1 _ v u hv hu Q q => by
    cases hv; cases hu
    exact ⟨rfl, q _ H1 (Same.refl _) (by show V.bl _ = V.bl _; congr 1; simp)⟩
theorem ed_eqS {a d : Str} (ha : Ed ta σ H aS a) (hb : Ed tb σ H aS d) : Ed (tOp rEq ta tb) σ H aB (decide (a = d)) :=
  ed_op ha hb fun H1 _ v u hv hu Q q => by
    cases hv; cases hu
    exact ⟨rfl, q _ H1 (Same.refl _) (by show V.bl _ = V.bl _; congr 1; simp)⟩
theorem ed_neS {a d : Str} (ha : Ed ta σ H aS a) (hb : Ed tb σ H aS d) : Ed (tOp rNe ta tb) σ H aB (!decide (a = d)) :=
  ed_op ha hb fun H1 _ v u hv hu Q q => by
    cases hv; cases hu
    exact ⟨rfl, q _ H1 (Same.refl _) (by show V.bl _ = V.bl _; congr 1; simp)⟩
theorem ed_eqB {a d : Bool} (ha : Ed ta σ H aB a) (hb : Ed tb σ H aB d) : Ed (tOp rEq ta tb) σ H aB (decide (a = d)) :=
  ed_op ha hb fun H1 _ v u hv hu Q q => by
    cases hv; cases hu
    exact ⟨rfl, q _ H1 (Same.refl _) (by show V.bl _ = V.bl _; congr 1; simp)⟩
theorem ed_neB {a d : Bool} (ha : Ed ta σ H aB a) (hb : Ed tb σ H aB d) : Ed (tOp rNe ta tb) σ H aB (!decide (a = d)) :=
  ed_op ha hb fun H1 _ v u hv hu Q q => by
    cases hv; cases hu
    exact ⟨rfl, q _ H1 (Same.refl _) (by show V.bl _ = V.bl _; congr 1; simp)⟩
/-- is None, is not None -/
theorem ed_isN [Ms r] {o : Option α} (ha : Ed ta σ H (aO r) o) : Ed (tOp (fun x y H Q => y = .non ∧ Q (.bl (decide (x = .non))) H) ta (tC .non)) σ H aB o.isNone := fun H1 e Q q =>
  ha H1 e _ fun v H2 e2 hv => ⟨rfl, q _ H2 e2 (by
    cases o with
    | none => cases hv; rfl
    | some x => show V.bl _ = V.bl _; rw [decide_eq_false hv.2]; rfl)⟩
theorem ed_notN [Ms r] {o : Option α} (ha : Ed ta σ H (aO r) o) : Ed (tOp (fun x y H Q => y = .non ∧ Q (.bl (!decide (x = .non))) H) ta (tC .non)) σ H aB o.isSome := fun H1 e Q q =>
  ha H1 e _ fun v H2 e2 hv => ⟨rfl, q _ H2 e2 (by
    cases o with
    | none => cases hv; rfl
    | some x => show V.bl _ = V.bl _; rw [decide_eq_false hv.2]; rfl)⟩
theorem atI_paired {F : V → α → Prop} {vs : List V} {xs : List α} (p : Paired F vs xs) {x : α} (h : atI xs i = some x) : ∃ v, atI vs i = some v ∧ F v x := by
  have hl := p.length
  unfold atI at h ⊢
  rw [hl]
  cases e : ixN xs.length i with
  | none => rw [e] at h; cases h
  | some j =>
    rw [e] at h
    obtain ⟨v, h1, h2⟩ := Paired.getr p (show xs[j]? = some x from h)
    exact ⟨v, h1, h2⟩
theorem ed_ixT [Ms r] {xs : List α} (ha : Ed ta σ H (aT r) xs) (hb : Ed tb σ H aI i) (h : atI xs i = some x) : Ed (tOp (rIxT K) ta tb) σ H r x :=
  ed_op ha hb fun H1 _ v u ⟨a, vs, h1, h2, h3⟩ hu Q q => by
    obtain ⟨w, h4, h5⟩ := atI_paired h3 h
    exact ⟨a, vs, i, w, h1, hu, SqT.of h2, h4, q w H1 (Same.refl _) h5⟩
theorem ed_ixL [Ms r] {xs : List α} (ha : Ed ta σ H (aL r) xs) (hb : Ed tb σ H aI i) (h : atI xs i = some x) : Ed (tOp (rIxL K) ta tb) σ H r x :=
  ed_op ha hb fun H1 _ v u ⟨a, vs, h1, h2, h3⟩ hu Q q => by
    obtain ⟨w, h4, h5⟩ := atI_paired h3 h
    exact ⟨a, vs, i, w, h1, hu, SqL.of h2, h4, q w H1 (Same.refl _) h5⟩
theorem ed_ixP0 [Ms r] [Ms s] {p : α × β} (ha : Ed ta σ H (aP r s) p) : Ed (tOp (rIxT K) ta (tC (.int 0))) σ H r p.1 := fun H1 e Q q =>
  ha H1 e _ fun v H2 e2 ⟨a, x1, y1, h1, h2, h3, h4⟩ => ⟨a, _, 0, x1, h1, rfl, SqT.of h2, rfl, q x1 H2 e2 h3⟩
theorem ed_ixP1 [Ms r] [Ms s] {p : α × β} (ha : Ed ta σ H (aP r s) p) : Ed (tOp (rIxT K) ta (tC (.int 1))) σ H s p.2 := fun H1 e Q q =>
  ha H1 e _ fun v H2 e2 ⟨a, x1, y1, h1, h2, h3, h4⟩ => ⟨a, _, 1, y1, h1, rfl, SqT.of h2, rfl, q y1 H2 e2 h4⟩
theorem dget_of {r : Rl β} {g : List (List Int × β)} {c : List Int} {v u : V} (h : aD r H v g) (hu : aT aI H u c) : ∃ a o, v = .ref a ∧ DGet H a u o ∧ (o.isSome = (look g c).isSome) ∧ (∀ x, look g c = some x → ∃ w, o = some w ∧ r H w x) ∧ (look g c = none → o = none) := by
  obtain ⟨d, kvs, h1, h2, h3⟩ := h
  obtain ⟨b, h4, h5⟩ := aTI_iff.mp hu
  refine ⟨d, valV kvs (kk c), h1, Or.inr ⟨kvs, kk c, b, h2, h4, by rw [kk_kV]; exact h5, rfl⟩, KvP.both c h3, fun x e => ?_, fun e => KvP.no h3 e⟩
  exact KvP.yes h3 e
theorem ed_ixD [Ms s] {g : List (List Int × β)} {k : List Int} (ha : Ed ta σ H (aD s) g) (hb : Ed tb σ H (aT aI) k) (h : look g k = some y) : Ed (tDGet ta tb) σ H s y := fun H1 e Q q =>
  ha H1 e _ fun v H2 e2 hv => hb H2 (e.trans e2) _ fun u H3 e3 hu => by
    obtain ⟨a, o, h1, h2, _, h3, _⟩ := dget_of (Mo.mo e3 hv) hu
    obtain ⟨w, rfl, h5⟩ := h3 y h
    exact ⟨a, w, h1, h2, q w H3 (e2.trans e3) h5⟩
theorem ed_inD [Ms s] {g : List (List Int × β)} {k : List Int} (ha : Ed ta σ H (aT aI) k) (hb : Ed tb σ H (aD s) g) : Ed (tDIn ta tb) σ H aB (look g k).isSome := fun H1 e Q q =>
  ha H1 e _ fun v H2 e2 hv => hb H2 (e.trans e2) _ fun u H3 e3 hu => by
    obtain ⟨a, o, h1, h2, h3, _, _⟩ := dget_of hu (Mo.mo e3 hv)
    exact ⟨a, o, h1, h2, q _ H3 (e2.trans e3) (by rw [h3]; rfl)⟩
theorem ed_notInD [Ms s] {g : List (List Int × β)} {k : List Int} (ha : Ed ta σ H (aT aI) k) (hb : Ed tb σ H (aD s) g) : Ed (tDNotIn ta tb) σ H aB (!(look g k).isSome) := fun H1 e Q q =>
  ha H1 e _ fun v H2 e2 hv => hb H2 (e.trans e2) _ fun u H3 e3 hu => by
    obtain ⟨a, o, h1, h2, h3, _, _⟩ := dget_of hu (Mo.mo e3 hv)
    exact ⟨a, o, h1, h2, q _ H3 (e2.trans e3) (by rw [h3]; rfl)⟩
theorem et_test (h : Ed te σ H aB b) : EdT (tTest te) σ H b := fun H1 e _ q => h H1 e _ fun v H2 e2 hv => ⟨b, hv, q H2 e2⟩
theorem et_B (h : Ed te σ H aB b) : EdT (tB te) σ H b := fun H1 e _ q => h H1 e _ fun v H2 e2 hv => ⟨b, hv, q H2 e2⟩
theorem et_yes : EdT tYes σ H true := fun H1 _ _ q => q H1 (Same.refl _)
theorem et_and (h1 : EdT tt σ H b) (h2 : b = true → EdT tu σ H c) : EdT (tAnd tt tu) σ H (b && c) := fun H1 e Q q => h1 H1 e _ fun H2 e2 => by
  cases b with
  | true =>
    show tu σ H2 Q
    exact h2 rfl H2 (e.trans e2) Q fun H3 e3 => q H3 (e2.trans e3)
  | false =>
    show Q false H2
    exact q H2 e2
theorem et_or (h1 : EdT tt σ H b) (h2 : b = false → EdT tu σ H c) : EdT (tOr tt tu) σ H (b || c) := fun H1 e Q q => h1 H1 e _ fun H2 e2 => by
  cases b with
  | true =>
    show Q true H2
    exact q H2 e2
  | false =>
    show tu σ H2 Q
    exact h2 rfl H2 (e.trans e2) Q fun H3 e3 => q H3 (e2.trans e3)
theorem et_not (h1 : EdT tt σ H b) : EdT (tNot tt) σ H (!b) := fun H1 e _ q => h1 H1 e _ fun H2 e2 => q H2 e2
theorem ed_andV (h1 : Ed ta σ H aB b) (h2 : b = true → Ed tb σ H aB c) : Ed (tAndV ta tb) σ H aB (b && c) := fun H1 e Q q => h1 H1 e _ fun v H2 e2 hv => ⟨b, hv, by
  cases b with
  | true =>
    show tb σ H2 Q
    exact h2 rfl H2 (e.trans e2) Q fun v H3 e3 hv => q v H3 (e2.trans e3) hv
  | false =>
    show Q (.bl false) H2
    exact q _ H2 e2 rfl⟩
theorem ed_orV (h1 : Ed ta σ H aB b) (h2 : b = false → Ed tb σ H aB c) : Ed (tOrV ta tb) σ H aB (b || c) := fun H1 e Q q => h1 H1 e _ fun v H2 e2 hv => ⟨b, hv, by
  cases b with
  | true =>
    show Q (.bl true) H2
    exact q _ H2 e2 rfl
  | false =>
    show tb σ H2 Q
    exact h2 rfl H2 (e.trans e2) Q fun v H3 e3 hv => q v H3 (e2.trans e3) hv⟩
theorem ed_notV (h1 : Ed ta σ H aB b) : Ed (tNotV ta) σ H aB (!b) := fun H1 e Q q => h1 H1 e _ fun v H2 e2 hv => ⟨b, hv, q _ H2 e2 rfl⟩
theorem ed_if (h : EdT tt σ H b) (h1 : b = true → Ed ta σ H r x) (h2 : b = false → Ed tb σ H r x) : Ed (tIf tt ta tb) σ H r x := fun H1 e Q q => h H1 e _ fun H2 e2 => by
  cases b with
  | true =>
    show ta σ H2 Q
    exact h1 rfl H2 (e.trans e2) Q fun v H3 e3 hv => q v H3 (e2.trans e3) hv
  | false =>
    show tb σ H2 Q
    exact h2 rfl H2 (e.trans e2) Q fun v H3 e3 hv => q v H3 (e2.trans e3) hv
theorem ea_nil : EdA tNil σ H (fun _ vs => vs = []) := fun H1 _ _ q => q _ H1 (Same.refl _) rfl
theorem ea_cons [Ms r] {tr : TA} {R : Hp → List V → Prop} (h : Ed te σ H r x) (hr : EdA tr σ H R) : EdA (tCons te tr) σ H (fun H' vs => ∃ v us, vs = v :: us ∧ r H' v x ∧ R H' us) := fun H1 e _ q =>
  h H1 e _ fun v H2 e2 hv => hr H2 (e.trans e2) _ fun us H3 e3 hu => q _ H3 (e2.trans e3) ⟨v, us, rfl, Mo.mo e3 hv, hu⟩
/-- one argument, two, three, four -/
theorem ea1 [Ms r] (h : Ed ta σ H r x) : EdA (tCons ta tNil) σ H (fun H' vs => ∃ v, vs = [v] ∧ r H' v x) := fun H1 e Q q =>
  ea_cons h ea_nil H1 e Q fun vs H2 e2 ⟨v, us, h1, h2, h3⟩ => q vs H2 e2 ⟨v, by rw [h1, h3], h2⟩
theorem ea2 [Ms r] [Ms s] (h : Ed ta σ H r x) (h' : Ed tb σ H s y) : EdA (tCons ta (tCons tb tNil)) σ H (fun H' vs => ∃ v u, vs = [v, u] ∧ r H' v x ∧ s H' u y) := fun H1 e Q q =>
  ea_cons h (ea1 h') H1 e Q fun vs H2 e2 ⟨v, us, h1, h2, u, h3, h4⟩ => q vs H2 e2 ⟨v, u, by rw [h1, h3], h2, h4⟩
theorem ea3 [Ms r] [Ms s] {t : Rl γ} [Ms t] {z : γ} (h : Ed ta σ H r x) (h' : Ed tb σ H s y) (h'' : Ed tc σ H t z) : EdA (tCons ta (tCons tb (tCons tc tNil))) σ H (fun H' vs => ∃ v u w, vs = [v, u, w] ∧ r H' v x ∧ s H' u y ∧ t H' w z) := fun H1 e Q q =>
  ea_cons h (ea2 h' h'') H1 e Q fun vs H2 e2 ⟨v, us, h1, h2, u, w, h3, h4, h5⟩ => q vs H2 e2 ⟨v, u, w, by rw [h1, h3], h2, h4, h5⟩
theorem ea4 [Ms r] [Ms s] {t : Rl γ} [Ms t] {z : γ} {u : Rl δ} [Ms u] {w : δ} {td : TE} (h : Ed ta σ H r x) (h' : Ed tb σ H s y) (h'' : Ed tc σ H t z) (h3 : Ed td σ H u w) :
    EdA (tCons ta (tCons tb (tCons tc (tCons td tNil)))) σ H (fun H' vs => ∃ v1 v2 v3 v4, vs = [v1, v2, v3, v4] ∧ r H' v1 x ∧ s H' v2 y ∧ t H' v3 z ∧ u H' v4 w) := fun H1 e Q q =>
  ea_cons h (ea3 h' h'' h3) H1 e Q fun vs H2 e2 ⟨v, us, h1, h2, v2, v3, v4, h3, h4, h5, h6⟩ => q vs H2 e2 ⟨v, v2, v3, v4, by rw [h1, h3], h2, h4, h5, h6⟩
/-- all of one kind -/
theorem eal_nil : EdA tNil σ H (fun H' vs => Paired (r H') vs []) := fun H1 _ _ q => q _ H1 (Same.refl _) .nil
theorem eal_cons [Ms r] {tr : TA} {xs : List α} (h : Ed te σ H r x) (hr : EdA tr σ H (fun H' vs => Paired (r H') vs xs)) : EdA (tCons te tr) σ H (fun H' vs => Paired (r H') vs (x :: xs)) := fun H1 e _ q =>
  h H1 e _ fun v H2 e2 hv => hr H2 (e.trans e2) _ fun us H3 e3 hu => q _ H3 (e2.trans e3) (.cons (Mo.mo e3 hv) hu)
theorem sz_of {n : Nat} (h : n ≤ 100000) : n ≤ sizeLine := Nat.le_trans h (by decide)
theorem sz_lt {n : Nat} (h : n < 100000) : n < sizeLine := Nat.lt_of_lt_of_le h (by decide)
theorem ed_tup [Ms r] {ta : TA} {xs : List α} (h : EdA ta σ H (fun H' vs => Paired (r H') vs xs)) (hl : xs.length ≤ 100000) : Ed (tTup ta) σ H (aT r) xs := fun H1 e Q q =>
  h H1 e _ fun vs H2 e2 hv => ⟨sz_of (by rw [hv.length]; exact hl), fun p hp => q _ _ (e2.trans (Same.new hp)) ⟨p, vs, rfl, upd_same, Paired.imp hv fun _ _ w => Mo.mo (Same.new hp) w⟩⟩
theorem ed_lst [Ms r] {ta : TA} {xs : List α} (h : EdA ta σ H (fun H' vs => Paired (r H') vs xs)) (hl : xs.length ≤ 100000) : Ed (tLst ta) σ H (aL r) xs := fun H1 e Q q =>
  h H1 e _ fun vs H2 e2 hv => ⟨sz_of (by rw [hv.length]; exact hl), fun p hp => q _ _ (e2.trans (Same.new hp)) ⟨p, vs, rfl, upd_same, Paired.imp hv fun _ _ w => Mo.mo (Same.new hp) w⟩⟩
theorem ed_pair [Ms r] [Ms s] (h : Ed ta σ H r x) (h' : Ed tb σ H s y) : Ed (tTup (tCons ta (tCons tb tNil))) σ H (aP r s) (x, y) := fun H1 e Q q =>
  ea2 h h' H1 e _ fun vs H2 e2 ⟨v, u, h1, h2, h3⟩ => ⟨by rw [h1]; exact sz_of (by show 2 ≤ 100000; decide), fun p hp => q _ _ (e2.trans (Same.new hp)) ⟨p, v, u, rfl, by rw [h1]; exact upd_same, Mo.mo (Same.new hp) h2, Mo.mo (Same.new hp) h3⟩⟩
theorem ed_call {sp : Sp} {dvs : List V} {E : XK} {ta : TA} {R : Hp → List V → Prop} (h : EdA ta σ H R) (hs : ∀ H1 vs, Same H H1 → R H1 vs → ∀ Q : VK, (∀ v H2, Same H1 H2 → r H2 v x → Q v H2) → sp (vs ++ dvs) H1 Q E) : Ed (tCall sp dvs E ta) σ H r x := fun H1 e Q q =>
  h H1 e _ fun vs H2 e2 hv => hs H2 vs (e.trans e2) hv Q fun v H3 e3 hr => q v H3 (e2.trans e3) hr
end
section
variable {α β γ δ ε : Type}
def Sp1 (r : Rl α) (pre : α → Prop) (t : Rl β) (f : α → β) : Sp := fun vs H Q _ => ∃ v x, vs = [v] ∧ r H v x ∧ pre x ∧ ∀ w H', Same H H' → t H' w (f x) → Q w H'
def Sp2 (r : Rl α) (s : Rl β) (pre : α → β → Prop) (t : Rl γ) (f : α → β → γ) : Sp := fun vs H Q _ => ∃ v u x y, vs = [v, u] ∧ r H v x ∧ s H u y ∧ pre x y ∧ ∀ w H', Same H H' → t H' w (f x y) → Q w H'
def Sp3 (r : Rl α) (s : Rl β) (t : Rl γ) (pre : α → β → γ → Prop) (q : Rl δ) (f : α → β → γ → δ) : Sp := fun vs H Q _ => ∃ v u w x y z, vs = [v, u, w] ∧ r H v x ∧ s H u y ∧ t H w z ∧ pre x y z ∧ ∀ a H', Same H H' → q H' a (f x y z) → Q a H'
def Sp4 (r : Rl α) (s : Rl β) (t : Rl γ) (u : Rl δ) (pre : α → β → γ → δ → Prop) (q : Rl ε) (f : α → β → γ → δ → ε) : Sp := fun vs H Q _ => ∃ v1 v2 v3 v4 x y z w, vs = [v1, v2, v3, v4] ∧ r H v1 x ∧ s H v2 y ∧ t H v3 z ∧ u H v4 w ∧ pre x y z w ∧ ∀ a H', Same H H' → q H' a (f x y z w) → Q a H'
variable {σ : L2.St} {H : Hp} {ta tb tc td : TE} {r : Rl α} {s : Rl β} {t : Rl γ} {u : Rl δ} {x : α} {y : β} {z : γ} {w : δ} {E : XK}
theorem ed_call1 [Ms r] {pre : α → Prop} {f : α → β} (h : Ed ta σ H r x) (hp : pre x) : Ed (tCall (Sp1 r pre s f) [] E (tCons ta tNil)) σ H s (f x) :=
  ed_call (ea1 h) fun H1 vs _ ⟨v, h1, h2⟩ Q q => ⟨v, x, by rw [h1]; rfl, h2, hp, fun w H' e hw => q w H' e hw⟩
theorem ed_call2 [Ms r] [Ms s] {pre : α → β → Prop} {f : α → β → γ} (h : Ed ta σ H r x) (h' : Ed tb σ H s y) (hp : pre x y) : Ed (tCall (Sp2 r s pre t f) [] E (tCons ta (tCons tb tNil))) σ H t (f x y) :=
  ed_call (ea2 h h') fun H1 vs _ ⟨v, u, h1, h2, h3⟩ Q q => ⟨v, u, x, y, by rw [h1]; rfl, h2, h3, hp, fun w H' e hw => q w H' e hw⟩
theorem ed_call3 [Ms r] [Ms s] [Ms t] {pre : α → β → γ → Prop} {q : Rl δ} {f : α → β → γ → δ} (h : Ed ta σ H r x) (h' : Ed tb σ H s y) (h'' : Ed tc σ H t z) (hp : pre x y z) : Ed (tCall (Sp3 r s t pre q f) [] E (tCons ta (tCons tb (tCons tc tNil)))) σ H q (f x y z) :=
  ed_call (ea3 h h' h'') fun H1 vs _ ⟨v, u, w, h1, h2, h3, h4⟩ Q q => ⟨v, u, w, x, y, z, by rw [h1]; rfl, h2, h3, h4, hp, fun w H' e hw => q w H' e hw⟩
theorem ed_call4 [Ms r] [Ms s] [Ms t] [Ms u] {pre : α → β → γ → δ → Prop} {q : Rl ε} {f : α → β → γ → δ → ε} (h : Ed ta σ H r x) (h' : Ed tb σ H s y) (h'' : Ed tc σ H t z) (h3 : Ed td σ H u w) (hp : pre x y z w) : Ed (tCall (Sp4 r s t u pre q f) [] E (tCons ta (tCons tb (tCons tc (tCons td tNil))))) σ H q (f x y z w) :=
  ed_call (ea4 h h' h'' h3) fun H1 vs _ ⟨v1, v2, v3, v4, h1, h2, h3, h4, h5⟩ Q q => ⟨v1, v2, v3, v4, x, y, z, w, by rw [h1]; rfl, h2, h3, h4, h5, hp, fun w H' e hw => q w H' e hw⟩
end
end Pf

set_option Elab.async false
set_option linter.all false
set_option maxRecDepth 100000
set_option maxHeartbeats 4000000
namespace Pf
open PySem L2
section
variable {α β γ δ : Type} {K : PySem.W.Frag} {σ : L2.St} {H H' : Hp} {ta tb tc te : TE} {tt tu : TT} {r : Rl α} {s : Rl β} {x : α} {y : β}
/-- a source: it gives the xs, one behind the other, as long as G holds; G stands where the heap only grows -/
structure Gives (J : It) (G : Hp → Prop) (r : Rl α) (xs : List α) : Prop where
  walk : Walk J xs.length G fun i H v H' => Same H H' ∧ ∀ x, xs[i]? = some x → r H' v x
  same : ∀ H H', Same H H' → G H → G H'
def Src (wi : TI) (σ : L2.St) (H : Hp) (r : Rl α) (xs : List α) : Prop := ∀ H1, Same H H1 → ∀ R : It → Hp → Prop, (∀ J G H2, Same H1 H2 → G H2 → Gives J G r xs → R J H2) → wi σ H1 R
theorem gives_list [Ms r] {a : Addr} {vs : List V} {xs : List α} (hn : vs.length = xs.length) : Gives (Itl K a) (fun H => H a = some (.lst vs) ∧ Paired (r H) vs xs) r xs := by
  refine ⟨?_, fun H H' e ⟨h, p⟩ => ⟨e _ _ h, Paired.imp p fun _ _ q => Mo.mo e q⟩⟩
  rw [← hn]
  refine (walk_list (K := K) (a := a) (xs := vs)).mono (fun H h => SqL.of h.1) fun i H v H' hi h y => ?_
  obtain ⟨rfl, e⟩ := y
  refine ⟨Same.refl _, fun x hx => ?_⟩
  obtain ⟨z, h1, h2⟩ := Paired.get h.2 e
  rw [hx] at h1; cases h1; exact h2
theorem gives_tup [Ms r] {a : Addr} {vs : List V} {xs : List α} (hn : vs.length = xs.length) : Gives (Itt K a) (fun H => H a = some (.tup vs) ∧ Paired (r H) vs xs) r xs := by
  refine ⟨?_, fun H H' e ⟨h, p⟩ => ⟨e _ _ h, Paired.imp p fun _ _ q => Mo.mo e q⟩⟩
  rw [← hn]
  refine (walk_tup (K := K) (a := a) (xs := vs)).mono (fun H h => SqT.of h.1) fun i H v H' hi h y => ?_
  obtain ⟨rfl, e⟩ := y
  refine ⟨Same.refl _, fun x hx => ?_⟩
  obtain ⟨z, h1, h2⟩ := Paired.get h.2 e
  rw [hx] at h1; cases h1; exact h2
/-- lo, lo + 1, .. below lo + n -/
def rg (lo : Int) : Nat → List Int
  | 0 => []
  | n + 1 => lo :: rg (lo + 1) n
theorem rg_length : ∀ (n : Nat) (lo : Int), (rg lo n).length = n
  | 0, _ => rfl
  | n + 1, lo => by simp [rg, rg_length n]
theorem rg_get : ∀ {n : Nat} {lo : Int} {i : Nat} {x : Int}, (rg lo n)[i]? = some x → i < n ∧ x = lo + i
  | 0, _, _, _, h => by simp [rg] at h
  | n + 1, lo, 0, x, h => by simp [rg] at h; exact ⟨Nat.succ_pos _, by rw [← h]; simp⟩
  | n + 1, lo, i + 1, x, h => by
    obtain ⟨h1, h2⟩ := rg_get (n := n) (lo := lo + 1) (i := i) (x := x) (by simpa [rg] using h)
    exact ⟨by omega, by rw [h2]; omega⟩
theorem rg_at : ∀ {n : Nat} {lo : Int} {i : Nat}, i < n → (rg lo n)[i]? = some (lo + i)
  | 0, _, _, h => by omega
  | n + 1, lo, 0, _ => by simp [rg]
  | n + 1, lo, i + 1, h => by
    have := rg_at (n := n) (lo := lo + 1) (i := i) (by omega)
    simp only [rg, List.getElem?_cons_succ, this]
    congr 1; omega
theorem gives_range {lo : Int} {n : Nat} : Gives (Itr lo n) (fun _ => True) aI (rg lo n) := by
  refine ⟨?_, fun _ _ _ h => h⟩
  rw [rg_length]
  refine (walk_range (lo := lo) (n := n)).mono (fun _ h => h) fun i H v H' hi h y => ?_
  obtain ⟨rfl, e⟩ := y
  refine ⟨Same.refl _, fun x hx => ?_⟩
  rw [e, (rg_get hx).2]; rfl
theorem src_list [Ms r] {xs : List α} (h : Ed te σ H (aL r) xs) : Src (iList K te) σ H r xs := fun H1 e R q =>
  h H1 e _ fun v H2 e2 ⟨a, vs, h1, h2, h3⟩ => ⟨a, h1, ⟨vs, SqL.of h2⟩, q _ _ H2 e2 ⟨h2, h3⟩ (gives_list h3.length)⟩
theorem src_tup [Ms r] {xs : List α} (h : Ed te σ H (aT r) xs) : Src (iTup K te) σ H r xs := fun H1 e R q =>
  h H1 e _ fun v H2 e2 ⟨a, vs, h1, h2, h3⟩ => ⟨a, h1, ⟨vs, SqT.of h2⟩, q _ _ H2 e2 ⟨h2, h3⟩ (gives_tup h3.length)⟩
theorem src_rg1 {n : Int} (h : Ed te σ H aI n) (hn : n ≤ 2 ^ 61) (hm : -(2 ^ 61) ≤ n) : Src (iRng1 (tCons te tNil)) σ H aI (rg 0 n.toNat) := fun H1 e R q =>
  ea1 h H1 e _ fun vs H2 e2 ⟨v, h1, h2⟩ => ⟨n, by rw [h1, show v = V.int n from h2], by omega, by omega, q _ _ H2 e2 trivial gives_range⟩
theorem src_rg2 {n m : Int} (h : Ed ta σ H aI n) (h' : Ed tb σ H aI m) (hn : n ≤ 2 ^ 61) (hm : m ≤ 2 ^ 61) (hn' : -(2 ^ 61) ≤ n) (hm' : -(2 ^ 61) ≤ m) : Src (iRng2 (tCons ta (tCons tb tNil))) σ H aI (rg n (m - n).toNat) := fun H1 e R q =>
  ea2 h h' H1 e _ fun vs H2 e2 ⟨v, u, h1, h2, h3⟩ => ⟨n, m, by rw [h1, show v = V.int n from h2, show u = V.int m from h3], by omega, q _ _ H2 e2 trivial gives_range⟩
/-- numbered from k -/
def num (k : Int) : List α → List (Int × α)
  | [] => []
  | x :: r => (k, x) :: num (k + 1) r
theorem num_length : ∀ (xs : List α) (k : Int), (num k xs).length = xs.length
  | [], _ => rfl
  | x :: r, k => by simp [num, num_length r]
theorem num_get : ∀ {xs : List α} {k : Int} {i : Nat} {p : Int × α}, (num k xs)[i]? = some p → p.1 = k + i ∧ xs[i]? = some p.2
  | [], _, _, _, h => by simp [num] at h
  | x :: r, k, 0, p, h => by simp [num] at h; rw [← h]; simp
  | x :: r, k, i + 1, p, h => by
    obtain ⟨h1, h2⟩ := num_get (xs := r) (k := k + 1) (i := i) (p := p) (by simpa [num] using h)
    exact ⟨by rw [h1]; omega, by simpa using h2⟩
theorem gives_enum [Ms r] {a : Addr} {vs : List V} {xs : List α} (hn : vs.length = xs.length) : Gives (Ite K a) (fun H => H a = some (.lst vs) ∧ Paired (r H) vs xs) (aP aI r) (num 0 xs) := by
  refine ⟨?_, fun H H' e ⟨h, p⟩ => ⟨e _ _ h, Paired.imp p fun _ _ q => Mo.mo e q⟩⟩
  rw [num_length, ← hn]
  refine (walk_enum (K := K) (a := a) (xs := vs)).mono (fun H h => SqL.of h.1) fun i H v H' hi h y => ?_
  obtain ⟨T, x1, x2, rfl, hT, rfl, e1, e2⟩ := y
  refine ⟨Same.new hT, fun p hp => ?_⟩
  obtain ⟨q1, q2⟩ := num_get hp
  obtain ⟨z, h1, h2⟩ := Paired.get h.2 e2
  rw [q2] at h1; cases h1
  refine ⟨T, x1, x2, rfl, upd_same, ?_, Mo.mo (Same.new hT) h2⟩
  cases e1
  rw [q1]; show V.int _ = V.int _; simp
theorem gives_enumT [Ms r] {a : Addr} {vs : List V} {xs : List α} (hn : vs.length = xs.length) : Gives (IteT K a) (fun H => H a = some (.tup vs) ∧ Paired (r H) vs xs) (aP aI r) (num 0 xs) := by
  refine ⟨?_, fun H H' e ⟨h, p⟩ => ⟨e _ _ h, Paired.imp p fun _ _ q => Mo.mo e q⟩⟩
  rw [num_length, ← hn]
  refine ⟨fun i H hi h => ⟨vs, vs[i], SqT.of h.1, by simp [hi]⟩, fun H h => ⟨vs, SqT.of h.1, Nat.le_refl _⟩, fun i H v H' hi h y => ?_⟩
  obtain ⟨T, x2, rfl, hT, rfl, e2⟩ := y
  refine ⟨Same.new hT, fun p hp => ?_⟩
  obtain ⟨q1, q2⟩ := num_get hp
  obtain ⟨z, h1, h2⟩ := Paired.get h.2 (e2 vs (SqT.of h.1))
  rw [q2] at h1; cases h1
  refine ⟨T, _, x2, rfl, upd_same, ?_, Mo.mo (Same.new hT) h2⟩
  rw [q1]; show V.int _ = V.int _; simp
theorem src_enum [Ms r] {xs : List α} (h : Ed te σ H (aL r) xs) : Src (iEnum K (tCons te tNil)) σ H (aP aI r) (num 0 xs) := fun H1 e R q =>
  ea1 h H1 e _ fun vs H2 e2 ⟨v, h1, a, ws, h2, h3, h4⟩ => ⟨a, ws, by rw [h1, h2], SqL.of h3, q _ _ H2 e2 ⟨h3, h4⟩ (gives_enum h4.length)⟩
theorem src_enumT [Ms r] {xs : List α} (h : Ed te σ H (aT r) xs) : Src (iEnumT K (tCons te tNil)) σ H (aP aI r) (num 0 xs) := fun H1 e R q =>
  ea1 h H1 e _ fun vs H2 e2 ⟨v, h1, a, ws, h2, h3, h4⟩ => ⟨a, ws, by rw [h1, h2], SqT.of h3, q _ _ H2 e2 ⟨h3, h4⟩ (gives_enumT h4.length)⟩
/-- the keys of a dict that is locked -/
theorem gives_keys {d : Addr} {od : Obj} {kvs : List (List L2.Key × V)} {g : List (List Int × β)} (hk : kvs.map (·.1) = g.map fun p => kk p.1) : Gives (Itkt d od kvs) (fun H => H d = some (.frz od (.dT kvs))) (aT aI) (g.map (·.1)) := by
  have hn : (g.map (·.1)).length = kvs.length := by
    have := congrArg List.length hk
    simpa using this.symm
  refine ⟨?_, fun H H' e h => e _ _ h⟩
  rw [hn]
  refine (walk_keysT (d := d) (o := od) (kvs := kvs)).mono (fun H h => h) fun i H v H' hi h y => ?_
  obtain ⟨rfl, k, u, q, h1, rfl, h2⟩ := y
  refine ⟨Same.refl _, fun c hc => ?_⟩
  have e1 : (kvs.map (·.1))[i]? = some k := by rw [List.getElem?_map, h1]; rfl
  rw [hk, List.getElem?_map] at e1
  rw [List.getElem?_map] at hc
  cases e : g[i]? with
  | none => rw [e] at hc; cases hc
  | some p =>
    rw [e] at hc e1
    have e2 := Option.some.inj hc
    have e3 : kk p.1 = k := Option.some.inj e1
    rw [← e3, kk_kV] at h2
    rw [← e2]
    exact aTI_iff.mpr ⟨q, rfl, h2⟩

/-- a new list -/
def EdL (te : TE) (σ : L2.St) (H : Hp) (r : Rl α) (xs : List α) : Prop := ∀ H1, Same H H1 → ∀ Q : VK, (∀ l vs H2, H1 l = none → Same H1 H2 → H2 l = some (.lst vs) → Paired (r H2) vs xs → Q (.ref l) H2) → te σ H1 Q
theorem EdL.ed {xs : List α} (h : EdL te σ H r xs) : Ed te σ H (aL r) xs := fun H1 e Q q => h H1 e Q fun l vs H2 _ e2 hl hp => q _ H2 e2 ⟨l, vs, rfl, hl, hp⟩
theorem el_is {xs ys : List α} (h : EdL te σ H r xs) (e : xs = ys) : EdL te σ H r ys := e ▸ h
theorem el_listT [Ms r] {ys : List α} (h : Ed te σ H (aT r) ys) : EdL (tCB (fun xs H Q => ∃ p ys, xs = [.ref p] ∧ (SqL K H p ys ∨ SqT K H p ys) ∧ ∀ l, H l = none → Q (.ref l) (upd H l (.lst ys))) (tCons te tNil)) σ H r ys := fun H1 e Q q =>
  h H1 e _ fun v H2 e2 ⟨a, vs, h1, h2, h3⟩ => ⟨a, vs, by rw [h1], Or.inr (SqT.of h2), fun l hl => q l vs _ (e2.free hl) (e2.trans (Same.new hl)) upd_same (Paired.imp h3 fun _ _ w => Mo.mo (Same.new hl) w)⟩
theorem el_listL [Ms r] {ys : List α} (h : Ed te σ H (aL r) ys) : EdL (tCB (fun xs H Q => ∃ p ys, xs = [.ref p] ∧ (SqL K H p ys ∨ SqT K H p ys) ∧ ∀ l, H l = none → Q (.ref l) (upd H l (.lst ys))) (tCons te tNil)) σ H r ys := fun H1 e Q q =>
  h H1 e _ fun v H2 e2 ⟨a, vs, h1, h2, h3⟩ => ⟨a, vs, by rw [h1], Or.inl (SqL.of h2), fun l hl => q l vs _ (e2.free hl) (e2.trans (Same.new hl)) upd_same (Paired.imp h3 fun _ _ w => Mo.mo (Same.new hl) w)⟩
theorem el_lst [Ms r] {ta : TA} {xs : List α} (h : EdA ta σ H (fun H' vs => Paired (r H') vs xs)) (hl : xs.length ≤ 100000) : EdL (tLst ta) σ H r xs := fun H1 e Q q =>
  h H1 e _ fun vs H2 e2 hv => ⟨sz_of (by rw [hv.length]; exact hl), fun p hp => q p vs _ (e2.free hp) (e2.trans (Same.new hp)) upd_same (Paired.imp hv fun _ _ w => Mo.mo (Same.new hp) w)⟩
theorem el_nil : EdL (tLst tNil) σ H r [] := fun H1 e Q q => ⟨Nat.zero_le _, fun p hp => q p [] _ hp (Same.new hp) upd_same .nil⟩
/-- what is stored by a target: one name, two names -/
def Tgt (g : TG) (r : Rl α) (st : L2.St → V → V → L2.St) : Prop := ∀ (σ : L2.St) (H : Hp) (v : V) (x : α) (Q : L2.St → Hp → Prop), r H v x → (∀ σ', Q σ' H) → g v σ H Q
/-- the turns of a comprehension: of x kept and what it gives -/
theorem el_lcW {wi : TI} {g : TG} {vs : List Nat} {xs : List α} (f : α → Option β) [Ms s] [Im s] (h : Src wi σ H r xs) (hz : xs.length ≤ 90000)
    (hg : ∀ (i : Nat) (x : α) (v : V) (H1 : Hp) (Q : L2.St → Hp → Prop), Same H H1 → xs[i]? = some x → r H1 v x → (∀ σ2, wipe σ2 vs = wipe σ vs → (∃ b, EdT tt σ2 H1 b ∧ (b = false → f x = none) ∧ (b = true → ∃ y, f x = some y ∧ Ed te σ2 H1 s y)) → Q σ2 H1) → g v (wipe σ vs) H1 Q) :
    EdL (tLc wi g tt te vs) σ H s (xs.filterMap f) := fun H0 e Q q => h H0 e _ fun J G H1 e1 hG gv Dl hD => by
  refine lc_it gv.walk (fun i H' => H1 Dl = none ∧ Same H1 H' ∧ G H' ∧ ∃ ws, H' Dl = some (.lst ws) ∧ Paired (s H') ws ((xs.take i).filterMap f)) ⟨hD, Same.new hD, gv.same _ _ (Same.new hD) hG, [], upd_same, .nil⟩ (fun i H' _ p => p.2.2.1) ?_ ?_
  · rintro i v H2 H3 hi ⟨p1, p2, p3, ws, p4, p5⟩ ⟨e3, y3⟩
    have hx : xs[i]? = some xs[i] := List.getElem?_eq_getElem hi
    have e4 : Same H1 H3 := p2.trans e3
    have hD3 : H3 Dl = some (.lst ws) := e3 _ _ p4
    have e5 : xs.take (i + 1) = xs.take i ++ [xs[i]] := by rw [List.take_succ, hx]; rfl
    have hl : ws.length ≤ i := by
      have h1 := p5.length
      have h2 := List.length_filterMap_le f (xs.take i)
      have h3 := List.length_take_le i xs
      omega
    refine hg i xs[i] v H3 _ ((e.trans e1).trans e4) hx (y3 _ hx) fun σ2 hw hb => ⟨hw, ?_⟩
    obtain ⟨b, hb, hf, ht⟩ := hb
    refine hb H3 (Same.refl _) _ fun H4 e6 => ?_
    cases b with
    | false =>
      show _ ∧ _
      refine ⟨p1, e4.trans e6, gv.same _ _ (e3.trans e6) p3, ws, e6 _ _ hD3, ?_⟩
      rw [e5, List.filterMap_append, List.filterMap_cons, hf rfl, List.filterMap_nil, List.append_nil]
      exact Paired.imp p5 fun _ _ q => Mo.mo (e3.trans e6) q
    | true =>
      obtain ⟨y, hy, hyd⟩ := ht rfl
      show te σ2 H4 _
      refine hyd H4 e6 _ fun w H5 e7 hw => ⟨ws, e7 _ _ (e6 _ _ hD3), sz_lt (by omega), p1, Same.mut ((e4.trans e6).trans e7) p1, ?_, ?_⟩
      · exact gv.same _ _ (Same.mut (e4.trans (e6.trans e7)) p1) hG
      · refine ⟨ws ++ [w], upd_same, ?_⟩
        rw [e5, List.filterMap_append, List.filterMap_cons, hy, List.filterMap_nil]
        have mo : ∀ {v : V} {z : β}, s H5 v z → s (upd H5 Dl (.lst (ws ++ [w]))) v z := fun h => Im.upL (e7 _ _ (e6 _ _ hD3)) h
        exact Paired.snoc (Paired.imp p5 fun _ _ q => mo (Mo.mo ((e3.trans e6).trans e7) q)) (mo hw)
  · rintro H' ⟨p1, p2, _, ws, p4, p5⟩
    rw [List.take_length] at p5
    exact q Dl ws _ (e1.free p1) (e1.trans p2) p4 p5
theorem filterMap_if {t : α → Bool} {f : α → β} : ∀ xs : List α, xs.filterMap (fun x => if t x = true then some (f x) else none) = (xs.filter t).map f
  | [] => rfl
  | x :: r => by
    rw [List.filterMap_cons, List.filter_cons]
    by_cases h : t x = true
    · simp only [h, if_true, List.map_cons]; rw [filterMap_if r]
    · simp only [h]; exact filterMap_if r
/-- a target of two names -/
theorem tg2 {i j : Nat} {p : α × β} {v : V} {Q : L2.St → Hp → Prop} (h : aP r s H v p) (q : ∀ v1 v2, r H v1 p.1 → s H v2 p.2 → Q ((σ.set i (some v1)).set j (some v2)) H) : gTup K 2 (gCons (gName i) (gCons (gName j) gNil)) v σ H Q := by
  obtain ⟨a, x, y, h1, h2, h3, h4⟩ := h
  exact ⟨a, _, h1, SqT.of h2, rfl, x, _, rfl, y, _, rfl, rfl, q x y h3 h4⟩
/-- [f(x) for x in xs if t(x)] -/
theorem el_lc1 {wi : TI} {j : Nat} {vs : List Nat} {xs : List α} {t : α → Bool} {f : α → γ} {u : Rl γ} [Im u] [Ms u] (h : Src wi σ H r xs) (hz : xs.length ≤ 90000) (hw : ∀ v, wipe ((wipe σ vs).set j (some v)) vs = wipe σ vs)
    (ht : ∀ x v H1, Same H H1 → x ∈ xs → r H1 v x → EdT tt ((wipe σ vs).set j (some v)) H1 (t x)) (he : ∀ x v H1, Same H H1 → x ∈ xs → r H1 v x → t x = true → Ed te ((wipe σ vs).set j (some v)) H1 u (f x)) :
    EdL (tLc wi (gName j) tt te vs) σ H u ((xs.filter t).map f) := by
  rw [← filterMap_if]
  refine el_lcW _ h hz fun i x v H1 Q e hx hr q => ?_
  have hm : x ∈ xs := List.mem_of_getElem? hx
  refine q _ (hw v) ⟨t x, ht x v H1 e hm hr, fun hf => by rw [hf]; rfl, fun hf => ⟨f x, by rw [hf]; rfl, he x v H1 e hm hr hf⟩⟩
theorem el_lc2 {wi : TI} {i j : Nat} {vs : List Nat} {xs : List (α × β)} {t : α × β → Bool} {f : α × β → γ} {u : Rl γ} [Im u] [Ms u] (h : Src wi σ H (aP r s) xs) (hz : xs.length ≤ 90000) (hw : ∀ v w, wipe (((wipe σ vs).set i (some v)).set j (some w)) vs = wipe σ vs)
    (ht : ∀ x v w H1, Same H H1 → x ∈ xs → r H1 v x.1 → s H1 w x.2 → EdT tt (((wipe σ vs).set i (some v)).set j (some w)) H1 (t x)) (he : ∀ x v w H1, Same H H1 → x ∈ xs → r H1 v x.1 → s H1 w x.2 → t x = true → Ed te (((wipe σ vs).set i (some v)).set j (some w)) H1 u (f x)) :
    EdL (tLc wi (gTup K 2 (gCons (gName i) (gCons (gName j) gNil))) tt te vs) σ H u ((xs.filter t).map f) := by
  rw [← filterMap_if]
  refine el_lcW _ h hz fun k x v H1 Q e hx hr q => ?_
  have hm : x ∈ xs := List.mem_of_getElem? hx
  refine tg2 hr fun v1 v2 h1 h2 => ?_
  refine q _ (hw v1 v2) ⟨t x, ht x v1 v2 H1 e hm h1 h2, fun hf => by rw [hf]; rfl, fun hf => ⟨f x, by rw [hf]; rfl, he x v1 v2 H1 e hm h1 h2 hf⟩⟩
theorem filter_yes (xs : List α) : xs.filter (fun _ => true) = xs := List.filter_eq_self.mpr fun _ _ => rfl
/-- without a test -/
theorem el_lcA1 {wi : TI} {j : Nat} {vs : List Nat} {xs : List α} {f : α → γ} {u : Rl γ} [Im u] [Ms u] (h : Src wi σ H r xs) (hz : xs.length ≤ 90000) (hw : ∀ v, wipe ((wipe σ vs).set j (some v)) vs = wipe σ vs)
    (he : ∀ x v H1, Same H H1 → x ∈ xs → r H1 v x → Ed te ((wipe σ vs).set j (some v)) H1 u (f x)) : EdL (tLc wi (gName j) tYes te vs) σ H u (xs.map f) :=
  el_is (el_lc1 (t := fun _ => true) h hz hw (fun _ _ _ _ _ _ => et_yes) fun x v H1 e hm hr _ => he x v H1 e hm hr) (by rw [filter_yes])
theorem el_lcA2 {wi : TI} {i j : Nat} {vs : List Nat} {xs : List (α × β)} {f : α × β → γ} {u : Rl γ} [Im u] [Ms u] (h : Src wi σ H (aP r s) xs) (hz : xs.length ≤ 90000) (hw : ∀ v w, wipe (((wipe σ vs).set i (some v)).set j (some w)) vs = wipe σ vs)
    (he : ∀ x v w H1, Same H H1 → x ∈ xs → r H1 v x.1 → s H1 w x.2 → Ed te (((wipe σ vs).set i (some v)).set j (some w)) H1 u (f x)) : EdL (tLc wi (gTup K 2 (gCons (gName i) (gCons (gName j) gNil))) tYes te vs) σ H u (xs.map f) :=
  el_is (el_lc2 (t := fun _ => true) h hz hw (fun _ _ _ _ _ _ _ _ => et_yes) fun x v w H1 e hm h1 h2 _ => he x v w H1 e hm h1 h2) (by rw [filter_yes])

theorem ed_len {ys : List α} (h : Ed te σ H (aT r) ys) : Ed (tCB (fun xs H Q => ∃ p ys, xs = [.ref p] ∧ (SqL K H p ys ∨ SqT K H p ys) ∧ Q (.int ys.length) H) (tCons te tNil)) σ H aI (ys.length : Int) := fun H1 e Q q =>
  h H1 e _ fun v H2 e2 ⟨a, vs, h1, h2, h3⟩ => ⟨a, vs, by rw [h1], Or.inr (SqT.of h2), q _ H2 e2 (by rw [h3.length]; rfl)⟩
theorem ed_lenL {ys : List α} (h : Ed te σ H (aL r) ys) : Ed (tCB (fun xs H Q => ∃ p ys, xs = [.ref p] ∧ (SqL K H p ys ∨ SqT K H p ys) ∧ Q (.int ys.length) H) (tCons te tNil)) σ H aI (ys.length : Int) := fun H1 e Q q =>
  h H1 e _ fun v H2 e2 ⟨a, vs, h1, h2, h3⟩ => ⟨a, vs, by rw [h1], Or.inl (SqL.of h2), q _ H2 e2 (by rw [h3.length]; rfl)⟩
/-- list(a tuple, a list) -/
theorem ed_listT [Ms r] {ys : List α} (h : Ed te σ H (aT r) ys) : Ed (tCB (fun xs H Q => ∃ p ys, xs = [.ref p] ∧ (SqL K H p ys ∨ SqT K H p ys) ∧ ∀ l, H l = none → Q (.ref l) (upd H l (.lst ys))) (tCons te tNil)) σ H (aL r) ys := fun H1 e Q q =>
  h H1 e _ fun v H2 e2 ⟨a, vs, h1, h2, h3⟩ => ⟨a, vs, by rw [h1], Or.inr (SqT.of h2), fun l hl => q _ _ (e2.trans (Same.new hl)) ⟨l, vs, rfl, upd_same, Paired.imp h3 fun _ _ w => Mo.mo (Same.new hl) w⟩⟩
theorem ed_listL [Ms r] {ys : List α} (h : Ed te σ H (aL r) ys) : Ed (tCB (fun xs H Q => ∃ p ys, xs = [.ref p] ∧ (SqL K H p ys ∨ SqT K H p ys) ∧ ∀ l, H l = none → Q (.ref l) (upd H l (.lst ys))) (tCons te tNil)) σ H (aL r) ys := fun H1 e Q q =>
  h H1 e _ fun v H2 e2 ⟨a, vs, h1, h2, h3⟩ => ⟨a, vs, by rw [h1], Or.inl (SqL.of h2), fun l hl => q _ _ (e2.trans (Same.new hl)) ⟨l, vs, rfl, upd_same, Paired.imp h3 fun _ _ w => Mo.mo (Same.new hl) w⟩⟩
/-- tuple(a list) -/
theorem ed_tupL [Ms r] {ys : List α} (h : Ed te σ H (aL r) ys) : Ed (tCB (fun xs H Q => ∃ p ys, xs = [.ref p] ∧ ((SqL K H p ys ∧ ∀ l, H l = none → Q (.ref l) (upd H l (.tup ys))) ∨ (SqT K H p ys ∧ Q (.ref p) H))) (tCons te tNil)) σ H (aT r) ys := fun H1 e Q q =>
  h H1 e _ fun v H2 e2 ⟨a, vs, h1, h2, h3⟩ => ⟨a, vs, by rw [h1], Or.inl ⟨SqL.of h2, fun l hl => q _ _ (e2.trans (Same.new hl)) ⟨l, vs, rfl, upd_same, Paired.imp h3 fun _ _ w => Mo.mo (Same.new hl) w⟩⟩⟩
theorem ed_sumL {ns : List Int} (h : Ed te σ H (aL aI) ns) : Ed (tCB (rSum K) (tCons te tNil)) σ H aI ns.sum := fun H1 e Q q =>
  h H1 e _ fun v H2 e2 ⟨a, vs, h1, h2, h3⟩ => ⟨a, ns, by rw [h1], by rw [← paired_int h3]; exact SqL.of h2, q _ H2 e2 rfl⟩
theorem ed_allL {bs : List Bool} (h : Ed te σ H (aL aB) bs) : Ed (tCB (rAll K) (tCons te tNil)) σ H aB (bs.all id) := fun H1 e Q q =>
  h H1 e _ fun v H2 e2 ⟨a, vs, h1, h2, h3⟩ => ⟨a, bs, by rw [h1], by rw [← paired_bl h3]; exact SqL.of h2, q _ H2 e2 rfl⟩
/-- int(a truth) -/
theorem ed_intB {b : Bool} (h : Ed te σ H aB b) : Ed (tCB (fun xs H Q => (∃ i, xs = [.int i] ∧ Q (.int i) H) ∨ ∃ k, xs = [.bl k] ∧ Q (.int (if k then 1 else 0)) H) (tCons te tNil)) σ H aI (if b then 1 else 0) := fun H1 e Q q =>
  h H1 e _ fun v H2 e2 hv => Or.inr ⟨b, by rw [show v = V.bl b from hv], q _ H2 e2 rfl⟩
theorem ed_max2 {i j : Int} (ha : Ed ta σ H aI i) (hb : Ed tb σ H aI j) : Ed (tCB (fun xs H Q => ∃ i j, xs = [.int i, .int j] ∧ Q (.int (if j > i then j else i)) H) (tCons ta (tCons tb tNil))) σ H aI (if j > i then j else i) := fun H1 e Q q =>
  ea2 ha hb H1 e _ fun vs H2 e2 ⟨v, u, h1, h2, h3⟩ => ⟨i, j, by rw [h1, show v = V.int i from h2, show u = V.int j from h3], q _ H2 e2 rfl⟩
def cut (xs : List α) (lo hi : Option Int) : List α := (xs.drop (HT.sIx xs.length 0 lo)).take (HT.sIx xs.length xs.length hi - HT.sIx xs.length 0 lo)
theorem cut_paired {F : V → α → Prop} {vs : List V} {xs : List α} (p : Paired F vs xs) (lo hi : Option Int) : Paired F (cutV vs lo hi) (cut xs lo hi) := by
  unfold cutV cut
  rw [p.length]
  exact Paired.takeP _ (Paired.dropP _ p)
def EdO (to : TO) (σ : L2.St) (H : Hp) (o : Option Int) : Prop := ∀ H1, Same H H1 → ∀ Q : Option Int → Hp → Prop, (∀ H2, Same H1 H2 → Q o H2) → to σ H1 Q
theorem eo_no : EdO tNoPart σ H none := fun H1 _ _ q => q H1 (Same.refl _)
theorem eo_some {i : Int} (h : Ed te σ H aI i) : EdO (tPart te) σ H (some i) := fun H1 e Q q => h H1 e _ fun v H2 e2 hv => ⟨i, hv, q H2 e2⟩
theorem ed_cutL [Ms r] {tl th : TO} {lo hi : Option Int} {xs : List α} (h : Ed te σ H (aL r) xs) (hl : EdO tl σ H lo) (hh : EdO th σ H hi) : Ed (tSl (rSlL K) te tl th) σ H (aL r) (cut xs lo hi) := fun H1 e Q q =>
  h H1 e _ fun v H2 e2 hv => hl H2 (e.trans e2) _ fun H3 e3 => hh H3 ((e.trans e2).trans e3) _ fun H4 e4 => by
    obtain ⟨a, vs, h1, h2, h3⟩ := Mo.mo (e3.trans e4) hv
    exact ⟨a, vs, h1, SqL.of h2, fun p hp => q _ _ (((e2.trans e3).trans e4).trans (Same.new hp)) ⟨p, _, rfl, upd_same, Paired.imp (cut_paired h3 lo hi) fun _ _ w => Mo.mo (Same.new hp) w⟩⟩

theorem cut_whole {xs : List α} {lo hi : Option Int} (h : HT.sIx xs.length 0 lo = 0 ∧ HT.sIx xs.length xs.length hi = xs.length) : cut xs lo hi = xs := by
  unfold cut
  rw [h.1, h.2]; simp
theorem ed_cutT [Ms r] {tl th : TO} {lo hi : Option Int} {xs : List α} (h : Ed te σ H (aT r) xs) (hl : EdO tl σ H lo) (hh : EdO th σ H hi) : Ed (tSl (rSlA K) te tl th) σ H (aT r) (cut xs lo hi) := fun H1 e Q q =>
  h H1 e _ fun v H2 e2 hv => hl H2 (e.trans e2) _ fun H3 e3 => hh H3 ((e.trans e2).trans e3) _ fun H4 e4 => by
    obtain ⟨a, vs, h1, h2, h3⟩ := Mo.mo (e3.trans e4) hv
    have hn := h3.length
    refine ⟨a, vs, h1, SqT.of h2, fun hw => ?_, fun hw p hp => ?_⟩
    · rw [hn] at hw
      exact q _ _ ((e2.trans e3).trans e4) ⟨a, vs, rfl, h2, by rw [cut_whole hw]; exact h3⟩
    · exact q _ _ (((e2.trans e3).trans e4).trans (Same.new hp)) ⟨p, _, rfl, upd_same, Paired.imp (cut_paired h3 lo hi) fun _ _ w => Mo.mo (Same.new hp) w⟩
theorem ed_catT [Ms r] {xs ys : List α} (ha : Ed ta σ H (aT r) xs) (hb : Ed tb σ H (aT r) ys) (hz : xs.length + ys.length ≤ 100000) : Ed (tOp (rCatA K) ta tb) σ H (aT r) (xs ++ ys) :=
  ed_op ha hb fun H1 _ v u ⟨a, vs, h1, h2, h3⟩ ⟨b, us, g1, g2, g3⟩ Q q => by
    refine ⟨a, b, vs, us, h1, g1, SqT.of h2, SqT.of g2, sz_of (by rw [h3.length, g3.length]; exact hz), fun hx => ?_, fun hx hy => ?_, fun hx hy p hp => ?_⟩
    · subst hx
      have e : xs = [] := by cases h3; rfl
      exact q _ H1 (Same.refl _) ⟨b, us, rfl, g2, by rw [e]; exact g3⟩
    · subst hy
      have e : ys = [] := by cases g3; rfl
      exact q _ H1 (Same.refl _) ⟨a, vs, rfl, h2, by rw [e, List.append_nil]; exact h3⟩
    · exact q _ _ (Same.new hp) ⟨p, _, rfl, upd_same, Paired.imp (Paired.app h3 g3) fun _ _ w => Mo.mo (Same.new hp) w⟩
theorem ed_revL [Ms r] {xs : List α} (h : Ed te σ H (aL r) xs) : Ed (tRevL K te) σ H (aL r) xs.reverse := fun H1 e Q q =>
  h H1 e _ fun v H2 e2 ⟨a, vs, h1, h2, h3⟩ => ⟨a, vs, h1, SqL.of h2, fun p hp => q _ _ (e2.trans (Same.new hp)) ⟨p, _, rfl, upd_same, Paired.imp (Paired.rev h3) fun _ _ w => Mo.mo (Same.new hp) w⟩⟩
/-- xs + ys, xs * n -/
theorem ed_catL [Ms r] {xs ys : List α} (ha : Ed ta σ H (aL r) xs) (hb : Ed tb σ H (aL r) ys) (hz : xs.length + ys.length ≤ 100000) : Ed (tOp rCat ta tb) σ H (aL r) (xs ++ ys) :=
  ed_op ha hb fun H1 _ v u ⟨a, vs, h1, h2, h3⟩ ⟨b, us, g1, g2, g3⟩ Q q =>
    ⟨a, b, vs, us, h1, g1, h2, g2, sz_of (by rw [h3.length, g3.length]; exact hz), fun p hp => q _ _ (Same.new hp) ⟨p, _, rfl, upd_same, Paired.imp (Paired.app h3 g3) fun _ _ w => Mo.mo (Same.new hp) w⟩⟩
abbrev rLenS (K : PySem.W.Frag) : List V → Hp → VK → Prop := fun xs H Q => ∃ p ys, xs = [.ref p] ∧ (SqL K H p ys ∨ SqT K H p ys) ∧ Q (.int ys.length) H
abbrev rListS (K : PySem.W.Frag) : List V → Hp → VK → Prop := fun xs H Q => ∃ p ys, xs = [.ref p] ∧ (SqL K H p ys ∨ SqT K H p ys) ∧ ∀ l, H l = none → Q (.ref l) (upd H l (.lst ys))
abbrev rTupS (K : PySem.W.Frag) : List V → Hp → VK → Prop := fun xs H Q => ∃ p ys, xs = [.ref p] ∧ ((SqL K H p ys ∧ ∀ l, H l = none → Q (.ref l) (upd H l (.tup ys))) ∨ (SqT K H p ys ∧ Q (.ref p) H))

theorem ed_chain {i j k : Int} (ha : Ed ta σ H aI i) (hb : Ed tb σ H aI j) (hc : Ed tc σ H aI k) :
    Ed (tChain (rI0 fun i j => .bl (decide (i ≤ j))) (rI0 fun i j => .bl (decide (i < j))) ta tb tc) σ H aB (decide (i ≤ j) && decide (j < k)) := fun H1 e Q q =>
  ha H1 e _ fun v H2 e2 hv => hb H2 (e.trans e2) _ fun u H3 e3 hu => ⟨i, j, hv, hu, _, rfl, by
    cases hd : decide (i ≤ j) with
    | false => exact iteF (q _ H3 (e2.trans e3) (by rw [hd]; rfl))
    | true =>
      refine iteT (hc H3 ((e.trans e2).trans e3) _ fun w H4 e4 hw => ⟨j, k, hu, hw, q _ H4 ((e2.trans e3).trans e4) (by rw [hd]; rfl)⟩)⟩
/-- in, not in, among truths; among ints -/
theorem inV_bl (b : Bool) : ∀ bs : List Bool, inV (.bl b) (bs.map V.bl) = bs.contains b
  | [] => rfl
  | x :: r => by
    have ih := inV_bl b r
    show (eqV (.bl x) (.bl b) || inV (.bl b) (r.map V.bl)) = _
    rw [ih, List.contains_cons]
    show ((x == b) || _) = _
    rw [show (x == b) = (b == x) from by cases x <;> cases b <;> rfl]
theorem inV_int (b : Int) : ∀ bs : List Int, inV (.int b) (bs.map V.int) = bs.contains b
  | [] => rfl
  | x :: r => by
    have ih := inV_int b r
    show (eqV (.int x) (.int b) || inV (.int b) (r.map V.int)) = _
    rw [ih, List.contains_cons]
    show ((x == b) || _) = _
    rw [show (x == b) = (b == x) from BEq.comm]
theorem flat_bl : ∀ bs : List Bool, (bs.map V.bl).all flatV = true
  | [] => rfl
  | _ :: r => flat_bl r
theorem flat_int : ∀ bs : List Int, (bs.map V.int).all flatV = true
  | [] => rfl
  | _ :: r => flat_int r
theorem ed_inB {b : Bool} {bs : List Bool} (ha : Ed ta σ H aB b) (hb : Ed tb σ H (aL aB) bs) : Ed (tOp (rIn K false) ta tb) σ H aB (bs.contains b) :=
  ed_op ha hb fun H1 _ v u hv ⟨a, vs, h1, h2, h3⟩ Q q => ⟨a, vs, h1, Or.inl (SqL.of h2), by rw [show v = V.bl b from hv]; rfl, by rw [paired_bl h3]; exact flat_bl bs, q _ H1 (Same.refl _) (by
    rw [show v = V.bl b from hv, paired_bl h3, inV_bl]; rfl)⟩
theorem ed_ninB {b : Bool} {bs : List Bool} (ha : Ed ta σ H aB b) (hb : Ed tb σ H (aL aB) bs) : Ed (tOp (rIn K true) ta tb) σ H aB (!bs.contains b) :=
  ed_op ha hb fun H1 _ v u hv ⟨a, vs, h1, h2, h3⟩ Q q => ⟨a, vs, h1, Or.inl (SqL.of h2), by rw [show v = V.bl b from hv]; rfl, by rw [paired_bl h3]; exact flat_bl bs, q _ H1 (Same.refl _) (by
    rw [show v = V.bl b from hv, paired_bl h3, inV_bl]; rfl)⟩
theorem ed_ninI {b : Int} {bs : List Int} (ha : Ed ta σ H aI b) (hb : Ed tb σ H (aL aI) bs) : Ed (tOp (rIn K true) ta tb) σ H aB (!bs.contains b) :=
  ed_op ha hb fun H1 _ v u hv ⟨a, vs, h1, h2, h3⟩ Q q => ⟨a, vs, h1, Or.inl (SqL.of h2), by rw [show v = V.int b from hv]; rfl, by rw [paired_int h3]; exact flat_int bs, q _ H1 (Same.refl _) (by
    rw [show v = V.int b from hv, paired_int h3, inV_int]; rfl)⟩
/-- [x] * n -/
theorem el_rep [Ms r] {x : α} {n : Int} (ha : Ed te σ H r x) (hb : Ed tb σ H aI n) (h0 : 0 ≤ n) (hn : n ≤ 90000) : EdL (tOp rRep (tLst (tCons te tNil)) tb) σ H r (List.replicate n.toNat x) := fun H1 e Q q =>
  (el_lst (eal_cons ha eal_nil) (by show 1 ≤ 100000; decide)).ed H1 e _ fun v H2 e2 hv => hb H2 (e.trans e2) _ fun u H3 e3 hu => by
    obtain ⟨a, vs, h1, h2, h3⟩ := Mo.mo e3 hv
    cases h3 with
    | @cons w _ _ _ hw ht =>
      cases ht
      refine ⟨a, n, [w], h1, hu, h2, by omega, by omega, ?_, fun p hp => q p _ _ ((e2.trans e3).free hp) ((e2.trans e3).trans (Same.new hp)) upd_same ?_⟩
      · simp only [List.length_singleton]
        exact sz_of (by omega)
      · have hw' : r (upd H3 p (.lst (List.replicate n.toNat [w]).flatten)) w x := Mo.mo (Same.new hp) hw
        have : ∀ k : Nat, Paired (r (upd H3 p (.lst (List.replicate n.toNat [w]).flatten))) (List.replicate k [w]).flatten (List.replicate k x) := fun k => by
          induction k with
          | zero => exact .nil
          | succ k ih => rw [List.replicate_succ, List.replicate_succ, List.flatten_cons]; exact .cons hw' ih
        exact this n.toNat

variable {D : Ends} {tw tv : TS} {g : TG} {b : Bool}
theorem s_asg {i : Nat} (h : Ed te σ H r x) (k : ∀ v H1, Same H H1 → r H1 v x → D.nx (σ.set i (some v)) H1) : tAsg te (gName i) D σ H := h H (Same.refl H) _ fun v H1 e hv => k v H1 e hv
theorem s_ret (h : Ed te σ H r x) (k : ∀ v H1, Same H H1 → r H1 v x → D.rt v H1) : tRet te D σ H := h H (Same.refl H) _ k
theorem s_if (h : EdT tt σ H b) (h1 : b = true → ∀ H1, Same H H1 → tw D σ H1) (h2 : b = false → ∀ H1, Same H H1 → tv D σ H1) : tIfS tt tw tv D σ H := h H (Same.refl H) _ fun H1 e => by
  cases b with
  | true =>
    show tw D σ H1
    exact h1 rfl H1 e
  | false =>
    show tv D σ H1
    exact h2 rfl H1 e
theorem s_drop (h : Ed te σ H r x) (k : ∀ H1, Same H H1 → D.nx σ H1) : tDrop te D σ H := h H (Same.refl H) _ fun _ H1 e _ => k H1 e
/-- tuples stand -/
def TSm (H H' : Hp) : Prop := ∀ a xs, H a = some (.tup xs) → H' a = some (.tup xs)
theorem TSm.refl (H : Hp) : TSm H H := fun _ _ h => h
theorem TSm.trans {H H1 H2 : Hp} (a : TSm H H1) (b : TSm H1 H2) : TSm H H2 := fun c o h => b c o (a c o h)
theorem TSm.of {H H' : Hp} (e : Same H H') : TSm H H' := fun a xs h => e a _ h
theorem TSm.up {H : Hp} {l : Addr} {o : HO} (hl : ∀ xs, H l ≠ some (.tup xs)) : TSm H (upd H l o) := fun a xs e => by rw [upd_ne (fun z => hl xs (by rw [← z]; exact e))]; exact e
theorem TSm.upL {H : Hp} {l : Addr} {o : HO} {ys : List V} (hl : H l = some (.lst ys)) : TSm H (upd H l o) := TSm.up (fun xs e => by rw [hl] at e; cases e)
theorem TSm.upD {H : Hp} {l : Addr} {o : HO} {kvs : List (List L2.Key × V)} (hl : H l = some (.dT kvs)) : TSm H (upd H l o) := TSm.up (fun xs e => by rw [hl] at e; cases e)
theorem Im.ts {r : Rl α} [Im r] {H H' : Hp} {v : V} {x : α} (e : TSm H H') (h : r H v x) : r H' v x := Im.im e h
theorem s_asgL {i : Nat} {xs : List α} (h : EdL te σ H r xs) (k : ∀ l vs H1, H l = none → Same H H1 → H1 l = some (.lst vs) → Paired (r H1) vs xs → D.nx (σ.set i (some (.ref l))) H1) : tAsg te (gName i) D σ H := h H (Same.refl H) _ k
theorem s_retL {xs : List α} (h : EdL te σ H r xs) (k : ∀ l vs H1, H l = none → Same H H1 → H1 l = some (.lst vs) → Paired (r H1) vs xs → D.rt (.ref l) H1) : tRet te D σ H := h H (Same.refl H) _ k
/-- a new dict, empty -/
theorem s_newD {i : Nat} (k : ∀ d, H d = none → D.nx (σ.set i (some (.ref d))) (upd H d (.dT []))) : tAsg tDNewT (gName i) D σ H := fun d hd => k d hd
/-- the very value -/
def aV (w : V) : Rl Unit := fun _ v _ => v = w
instance {w : V} : Mo (aV w) := ⟨fun _ h => h⟩
instance {w : V} : Im (aV w) := ⟨fun _ h => h⟩
theorem ed_ref {i : Nat} {w : V} (h : σ[i]? = some (some w)) : Ed (tVar i) σ H (aV w) () := ed_var h rfl
theorem ixN_nat {n j : Nat} (hj : j < n) : ixN n (j : Int) = some j := by
  unfold ixN
  rw [if_pos (by omega), if_pos (by omega)]
  simp
/-- xs[i] = e -/
theorem s_setL {l : Addr} {ws : List V} {to ti : TE} {j : Int} {n : Nat} (hl : H l = some (.lst ws)) (h : Ed te σ H r x) (ho : Ed to σ H (aV (.ref l)) ()) (hi : Ed ti σ H aI j) (hj : ixN ws.length j = some n) (k : ∀ v H1, Same H H1 → r H1 v x → D.nx σ (upd H1 l (.lst (ws.set n v)))) [Ms r] :
    tAsg te (gSub to ti rSetL) D σ H := h H (Same.refl H) _ fun v H1 e1 hv => ho H1 e1 _ fun o H2 e2 h2 => hi H2 (e1.trans e2) _ fun i' H3 e3 h3 =>
  ⟨l, ws, j, n, h2, h3, ((e1.trans e2).trans e3) l _ hl, hj, k v H3 ((e1.trans e2).trans e3) (Mo.mo (e2.trans e3) hv)⟩
/-- xs.append(e) -/
theorem s_app {l : Addr} {ws : List V} {to : TE} (hl : H l = some (.lst ws)) (ho : Ed to σ H (aV (.ref l)) ()) (h : Ed te σ H r x) (hz : ws.length < 100000) (k : ∀ v H1, Same H H1 → r H1 v x → D.nx σ (upd H1 l (.lst (ws ++ [v])))) :
    tDrop (tBM K "list" rAppend to (tCons te tNil)) D σ H := ho H (Same.refl H) _ fun o H1 e1 h1 => by
  cases h1
  exact ⟨Or.inl ⟨rfl, ws, SqL.of (e1 l _ hl)⟩, h H1 e1 _ fun v H2 e2 hv => ⟨l, ws, v, rfl, rfl, e2 l _ (e1 l _ hl), sz_lt hz, k v H2 (e1.trans e2) hv⟩⟩
/-- xs.extend(a list) -/
theorem s_ext {l : Addr} {ws : List V} {to : TE} {ys : List α} (hl : H l = some (.lst ws)) (ho : Ed to σ H (aV (.ref l)) ()) (h : Ed te σ H (aL r) ys) (hz : ws.length + ys.length ≤ 100000) (k : ∀ us H1, Same H H1 → Paired (r H1) us ys → D.nx σ (upd H1 l (.lst (ws ++ us)))) :
    tDrop (tBM K "list" rExtend to (tCons te tNil)) D σ H := ho H (Same.refl H) _ fun o H1 e1 h1 => by
  cases h1
  exact ⟨Or.inl ⟨rfl, ws, SqL.of (e1 l _ hl)⟩, h H1 e1 _ fun v H2 e2 ⟨b, us, h3, h4, h5⟩ => ⟨l, b, ws, us, rfl, by rw [h3], e2 l _ (e1 l _ hl), h4, sz_of (by rw [h5.length]; exact hz), k us H2 (e1.trans e2) h5⟩⟩
/-- d[k] = e, the key a tuple of ints -/
theorem s_putD {d : Addr} {kvs : List (List L2.Key × V)} {td ty : TE} {c : List Int} (hd : H d = some (.dT kvs)) (h : Ed te σ H r x) (ho : Ed td σ H (aV (.ref d)) ()) (hi : Ed ty σ H (aT aI) c) (hz : kvs.length < 100000) [Ms r] (k : ∀ v H1, Same H H1 → r H1 v x → D.nx σ (upd H1 d (.dT (putK kvs (kk c) v)))) :
    sDPut td ty te D σ H := h H (Same.refl H) _ fun v H1 e1 hv => ho H1 e1 _ fun o H2 e2 h2 => hi H2 (e1.trans e2) _ fun y H3 e3 h3 => by
  obtain ⟨b, h4, h5⟩ := aTI_iff.mp h3
  exact ⟨d, _, h2, Or.inr ⟨kvs, kk c, b, ((e1.trans e2).trans e3) d _ hd, h4, by rw [kk_kV]; exact h5, sz_lt hz, rfl⟩, k v H3 ((e1.trans e2).trans e3) (Mo.mo (e2.trans e3) hv)⟩
/-- for over a tuple; what is written in between is no tuple -/
theorem s_forT [Ms r] [Im r] {xs : List α} (h : Ed te σ H (aT r) xs) (Pv : Nat → L2.St → Hp → Prop) (h0 : ∀ H1, Same H H1 → Pv 0 σ H1)
    (hs : ∀ H1 i x v σ' H', Same H H1 → xs[i]? = some x → Pv i σ' H' → TSm H1 H' → r H' v x → g v σ' H' fun σ2 H2 => tw { D with nx := fun σ3 H3 => Pv (i + 1) σ3 H3 ∧ TSm H1 H3, ct := fun σ3 H3 => Pv (i + 1) σ3 H3 ∧ TSm H1 H3, bk := D.nx } σ2 H2) (hd : ∀ σ' H', Pv xs.length σ' H' → D.nx σ' H') : tFor (iTup K te) g tw D σ H :=
  h H (Same.refl H) _ fun v H1 e ⟨a, vs, h1, h2, h3⟩ => ⟨a, h1, ⟨vs, SqT.of h2⟩, for_tup (xs := vs) (fun i σ' H' => Pv i σ' H' ∧ TSm H1 H') ⟨h0 H1 e, TSm.refl _⟩ (fun i σ' H' _ p => SqT.of (p.2 _ _ h2)) (fun i w σ' H' hi p => by
    obtain ⟨x, hx, hr⟩ := Paired.get h3 hi
    exact hs H1 i x w σ' H' e hx p.1 p.2 (Im.ts p.2 hr)) fun σ' H' p => hd σ' H' (by rw [← h3.length]; exact p.1)⟩
/-- a source that nothing written touches -/
def SrcT (wi : TI) (σ : L2.St) (H : Hp) (r : Rl α) (xs : List α) : Prop := ∀ H1, Same H H1 → ∀ R : It → Hp → Prop, (∀ J G H2, Same H1 H2 → G H2 → Gives J G r xs → (∀ H H', TSm H H' → G H → G H') → R J H2) → wi σ H1 R
theorem srcT_tup [Ms r] [Im r] {xs : List α} (h : Ed te σ H (aT r) xs) : SrcT (iTup K te) σ H r xs := fun H1 e R q =>
  h H1 e _ fun v H2 e2 ⟨a, vs, h1, h2, h3⟩ => ⟨a, h1, ⟨vs, SqT.of h2⟩, q _ _ H2 e2 ⟨h2, h3⟩ (gives_tup h3.length) fun _ _ t g => ⟨t _ _ g.1, Paired.imp g.2 fun _ _ q => Im.im t q⟩⟩
theorem srcT_enumT [Ms r] [Im r] {xs : List α} (h : Ed te σ H (aT r) xs) : SrcT (iEnumT K (tCons te tNil)) σ H (aP aI r) (num 0 xs) := fun H1 e R q =>
  ea1 h H1 e _ fun vs H2 e2 ⟨v, h1, a, ws, h2, h3, h4⟩ => ⟨a, ws, by rw [h1, h2], SqT.of h3, q _ _ H2 e2 ⟨h3, h4⟩ (gives_enumT h4.length) fun _ _ t g => ⟨t _ _ g.1, Paired.imp g.2 fun _ _ q => Im.im t q⟩⟩
theorem srcT_rg1 {n : Int} (h : Ed te σ H aI n) (hn : n ≤ 2 ^ 61) (hm : -(2 ^ 61) ≤ n) : SrcT (iRng1 (tCons te tNil)) σ H aI (rg 0 n.toNat) := fun H1 e R q =>
  ea1 h H1 e _ fun vs H2 e2 ⟨v, h1, h2⟩ => ⟨n, by rw [h1, show v = V.int n from h2], by omega, by omega, q _ _ H2 e2 trivial gives_range fun _ _ _ g => g⟩
/-- for over such a source: Pv by the turn; what is written is no tuple -/
theorem s_forS {wi : TI} {xs : List α} (h : SrcT wi σ H r xs) (Pv : Nat → L2.St → Hp → Prop) (h0 : ∀ H1, Same H H1 → Pv 0 σ H1)
    (hs : ∀ H1 i x v σ' H' H'', Same H H1 → xs[i]? = some x → Pv i σ' H' → TSm H1 H' → Same H' H'' → r H'' v x → g v σ' H'' fun σ2 H2 => tw { D with nx := fun σ3 H3 => Pv (i + 1) σ3 H3 ∧ TSm H1 H3, ct := fun σ3 H3 => Pv (i + 1) σ3 H3 ∧ TSm H1 H3, bk := D.nx } σ2 H2) (hd : ∀ σ' H', Pv xs.length σ' H' → D.nx σ' H') : tFor wi g tw D σ H :=
  h H (Same.refl H) _ fun J G H1 e hG gv ht => for_it gv.walk (fun i σ' H' => Pv i σ' H' ∧ TSm H1 H') ⟨h0 H1 e, TSm.refl _⟩ (fun i σ' H' _ p => ht _ _ p.2 hG) (fun i v σ' H' H'' hi p y => by
    have hx : xs[i]? = some xs[i] := List.getElem?_eq_getElem hi
    exact hs H1 i xs[i] v σ' H' H'' e hx p.1 p.2 y.1 (y.2 _ hx)) fun σ' H' p => hd σ' H' p.1
/-- for over a range -/
theorem s_forR1 {n : Int} {j : Nat} (h : Ed te σ H aI n) (hn : n ≤ 2 ^ 61) (hm : -(2 ^ 61) ≤ n) (Pv : Nat → L2.St → Hp → Prop) (h0 : ∀ H1, Same H H1 → Pv 0 σ H1)
    (hs : ∀ (i : Nat) σ' H', (i : Int) < n → Pv i σ' H' → tw { D with nx := Pv (i + 1), ct := Pv (i + 1), bk := D.nx } (σ'.set j (some (.int (i : Int)))) H') (hd : ∀ σ' H', Pv n.toNat σ' H' → D.nx σ' H') : tFor (iRng1 (tCons te tNil)) (gName j) tw D σ H :=
  show iRng1 (tCons te tNil) σ H _ from ea1 h H (Same.refl H) _ fun vs H1 e ⟨v, h1, h2⟩ => ⟨n, by rw [h1, show v = V.int n from h2], by omega, by omega, for_range (lo := 0) (n := n.toNat) Pv (h0 H1 e) (fun i σ' H' hi p => by
    have e0 : (0 : Int) + (i : Int) = (i : Int) := Int.zero_add _
    show tw { D with nx := Pv (i + 1), ct := Pv (i + 1), bk := D.nx } (σ'.set j (some (.int ((0 : Int) + (i : Int))))) H'
    rw [e0]
    exact hs i σ' H' (by omega) p) hd⟩
theorem s_forR2 {lo n : Int} {j : Nat} (h : Ed ta σ H aI lo) (h' : Ed tb σ H aI n) (hn : n ≤ 2 ^ 61) (hm : -(2 ^ 61) ≤ n) (hn' : lo ≤ 2 ^ 61) (hm' : -(2 ^ 61) ≤ lo) (Pv : Nat → L2.St → Hp → Prop) (h0 : ∀ H1, Same H H1 → Pv 0 σ H1)
    (hs : ∀ (i : Nat) σ' H', lo + (i : Int) < n → Pv i σ' H' → tw { D with nx := Pv (i + 1), ct := Pv (i + 1), bk := D.nx } (σ'.set j (some (.int (lo + (i : Int))))) H') (hd : ∀ σ' H', Pv (n - lo).toNat σ' H' → D.nx σ' H') : tFor (iRng2 (tCons ta (tCons tb tNil))) (gName j) tw D σ H :=
  show iRng2 (tCons ta (tCons tb tNil)) σ H _ from ea2 h h' H (Same.refl H) _ fun vs H1 e ⟨v, u, h1, h2, h3⟩ => ⟨lo, n, by rw [h1, show v = V.int lo from h2, show u = V.int n from h3], by omega, for_range (lo := lo) (n := (n - lo).toNat) Pv (h0 H1 e) (fun i σ' H' hi p => hs i σ' H' (by omega) p) hd⟩
end
end Pf

set_option Elab.async false
set_option linter.all false
set_option maxRecDepth 100000
set_option maxHeartbeats 4000000
namespace Pf
open PySem PySem.Spec PyProof.Rows L2
/-- the built-ins' names are free -/
structure Bt (mg : Str → Option Value) : Prop where
  len : mg "len" = none
  list : mg "list" = none
  tuple : mg "tuple" = none
  dict : mg "dict" = none
  sum : mg "sum" = none
  all : mg "all" = none
  max : mg "max" = none
  min : mg "min" = none
  int : mg "int" = none
  bool : mg "bool" = none
  range : mg "range" = none
  enumerate : mg "enumerate" = none
  sorted : mg "sorted" = none
  isinstance : mg "isinstance" = none
  set : mg "set" = none
  repr : mg "repr" = none
  str : mg "str" = none
  ValueError : mg "ValueError" = none
structure Here (K : PySem.W.Frag) (mg : Str → Option Value) (st : Stmt) (n : Str) (dvs : List V) : Prop where
  ex : ∃ f fd, FunD K n n (defArgs st) (defBody st) (defScope st) dvs [] f fd ∧ mg n = some (.ref f)
/-- the name x stands for a def that keeps the promise sp; dvs fill up its last arguments -/
structure Cl (P : Program) (w : World) (K : PySem.W.Frag) (mg : Str → Option Value) (base : Heap) (CX : CXT) (k : Nat) (x : Str) (ps : List Str) (dvs : List V) (sp : Sp) : Prop where
  ex : ∃ f fd ds, FnOk P w K mg base CX k f fd ps sp ∧ mg x = some (.ref f) ∧ PySem.W.keepIn K (.ref f) = true ∧ Binds K fd ps ds ∧ Vals dvs ds
section
variable {P : Program} {w : World} {K : PySem.W.Frag} {mg : Str → Option Value} {base : Heap} {CX : CXT} {k : Nat} {n : Str} {ps : List Str} {st : Stmt} {sp : Sp} {dvs : List V}
theorem Here.fn (d : Here K mg st n dvs) {N : List Str} (S : FnScope N ps (defScope st)) (len : ∀ vs H Q E, sp vs H Q E → vs.length = ps.length)
    (hbody : ∀ (f : Addr) (cdv : Value) (A : Around) (outer : List Env) (s : Shared) (H : Hp) (vs : List V) (Q : VK) (E : XK), Room k (A.deeper (envOfC n (defScope st) s.heap.objs.size f cdv)) → sp vs H Q E →
      ∃ t, PSs (cxOf CX P w K mg base N n (defScope st) f cdv A outer s H E) (defBody st) t ∧ t { nx := fun _ H' => Q .non H', rt := Q } (start N vs) H) :
    ∃ f fd, FnOk P w K mg base CX (k + 1) f fd ps sp ∧ FunD K n n (defArgs st) (defBody st) (defScope st) dvs [] f fd ∧ mg n = some (.ref f) := by
  obtain ⟨f, fd, F, hm⟩ := d.ex
  exact ⟨f, fd, F.ok S len (fun cdv A outer s H vs Q E hr h => hbody f cdv A outer s H vs Q E hr h), F, hm⟩
/-- no defaults, nothing raised -/
theorem Here.cl (d : Here K mg st n []) {N : List Str} (S : FnScope N ps (defScope st)) (hb : ∀ (kV doc pm : Value) (an : Option Addr) (cdv ct : Value) (us : List Value), us.length = ps.length → bindArgs (PySem.W.fnOf n n (defArgs st) (defBody st) (defScope st) .none kV doc pm an cdv ct) ⟨us, []⟩ = pure (ps.zip us))
    (len : ∀ vs H Q E, sp vs H Q E → vs.length = ps.length)
    (hbody : ∀ (f : Addr) (cdv : Value) (A : Around) (outer : List Env) (s : Shared) (H : Hp) (vs : List V) (Q : VK) (E : XK), Room k (A.deeper (envOfC n (defScope st) s.heap.objs.size f cdv)) → sp vs H Q E →
      ∃ t, PSs (cxOf CX0 P w K mg base N n (defScope st) f cdv A outer s H E).nox (defBody st) t ∧ t { nx := fun _ H' => Q .non H', rt := Q } (start N vs) H) : Cl P w K mg base CX0 (k + 1) n ps [] sp := by
  obtain ⟨f, fd, h1, F, h3⟩ := d.fn (CX := CX0) S len fun f cdv A outer s H vs Q E hr h => by
    obtain ⟨t, h1, h2⟩ := hbody f cdv A outer s H vs Q E hr h
    exact ⟨t, h1.nox, h2⟩
  exact ⟨f, fd, [], h1, h3, F.kp, F.bindsN hb, .nil⟩
/-- .. what may raise -/
theorem Here.clX (d : Here K mg st n []) {N : List Str} (S : FnScope N ps (defScope st)) (hb : ∀ (kV doc pm : Value) (an : Option Addr) (cdv ct : Value) (us : List Value), us.length = ps.length → bindArgs (PySem.W.fnOf n n (defArgs st) (defBody st) (defScope st) .none kV doc pm an cdv ct) ⟨us, []⟩ = pure (ps.zip us))
    (len : ∀ vs H Q E, sp vs H Q E → vs.length = ps.length)
    (hbody : ∀ (f : Addr) (cdv : Value) (A : Around) (outer : List Env) (s : Shared) (H : Hp) (vs : List V) (Q : VK) (E : XK), Room k (A.deeper (envOfC n (defScope st) s.heap.objs.size f cdv)) → sp vs H Q E →
      ∃ t, PSs (cxOf (L2.CX P w) P w K mg base N n (defScope st) f cdv A outer s H E) (defBody st) t ∧ t { nx := fun _ H' => Q .non H', rt := Q } (start N vs) H) : Cl P w K mg base (L2.CX P w) (k + 1) n ps [] sp := by
  obtain ⟨f, fd, h1, F, h3⟩ := d.fn (CX := L2.CX P w) S len hbody
  exact ⟨f, fd, [], h1, h3, F.kp, F.bindsN hb, .nil⟩
/-- one default: called with and without -/
theorem Here.clXd {dv : V} (d : Here K mg st n [dv]) {N : List Str} (S : FnScope N ps (defScope st)) (m : Nat) (hm : m + 1 = ps.length)
    (hb0 : ∀ (T : Addr) (kV doc pm : Value) (an : Option Addr) (cdv ct : Value) (us its : List Value), us.length = m → its.length = 1 →
      ∃ k, bindArgs (PySem.W.fnOf n n (defArgs st) (defBody st) (defScope st) (.ref T) kV doc pm an cdv ct) ⟨us, []⟩ = seqItems? (.ref T) >>= k ∧ k (some its.toArray) = pure (ps.zip (us ++ its)))
    (hb1 : ∀ (T : Addr) (kV doc pm : Value) (an : Option Addr) (cdv ct : Value) (us its : List Value), us.length = m + 1 → its.length = 1 →
      ∃ k, bindArgs (PySem.W.fnOf n n (defArgs st) (defBody st) (defScope st) (.ref T) kV doc pm an cdv ct) ⟨us, []⟩ = seqItems? (.ref T) >>= k ∧ k (some its.toArray) = pure (ps.zip us))
    (len : ∀ vs H Q E, sp vs H Q E → vs.length = ps.length)
    (hbody : ∀ (f : Addr) (cdv : Value) (A : Around) (outer : List Env) (s : Shared) (H : Hp) (vs : List V) (Q : VK) (E : XK), Room k (A.deeper (envOfC n (defScope st) s.heap.objs.size f cdv)) → sp vs H Q E →
      ∃ t, PSs (cxOf (L2.CX P w) P w K mg base N n (defScope st) f cdv A outer s H E) (defBody st) t ∧ t { nx := fun _ H' => Q .non H', rt := Q } (start N vs) H) :
    Cl P w K mg base (L2.CX P w) (k + 1) n ps [] sp ∧ Cl P w K mg base (L2.CX P w) (k + 1) n ps [dv] sp := by
  obtain ⟨f, fd, h1, F, h3⟩ := d.fn (CX := L2.CX P w) S len hbody
  obtain ⟨ds0, v0, b0⟩ := F.binds1 (ps := ps) m 0 (by simp) (by simpa using hm) fun T kV doc pm an cdv ct us its h1 h2 => by
    obtain ⟨k, e1, e2⟩ := hb0 T kV doc pm an cdv ct us its h1 (by simpa using h2)
    exact ⟨k, e1, by simpa using e2⟩
  obtain ⟨ds1, v1, b1⟩ := F.binds1 (ps := ps) (m + 1) 1 (by simp) (by simpa using hm) fun T kV doc pm an cdv ct us its h1 h2 => by
    have h2' : its.length = 1 := by simpa using h2
    obtain ⟨k, e1, e2⟩ := hb1 T kV doc pm an cdv ct us its h1 h2'
    refine ⟨k, e1, ?_⟩
    have e3 : its.drop 1 = [] := List.drop_eq_nil_of_le (by omega)
    rw [e3, List.append_nil]; exact e2
  refine ⟨⟨f, fd, ds1, h1, h3, F.kp, b1, by simpa using v1⟩, ⟨f, fd, ds0, h1, h3, F.kp, b0, by simpa using v0⟩⟩
end
section
variable {X : Cx} {CX : CXT} {k : Nat} {ps : List Str} {dvs : List V} {sp : Sp} {E : XK} {x : Str} {p pos : Pos} {e : Expr} {es : List Expr} {t : TA}
theorem pe_cl (c : Cl X.prog X.w X.K X.mg X.base CX k x ps dvs sp) (hr : Room k X.A) (hg : Gl X x) (hx : Passes CX X E) (ha : PA X (e :: es) t) (hdb : (x == ("__debug__" : Str)) = false := by decide)
    (he : starEach (e :: es) X.env = (false, eval e X.env) :: starEach es X.env := by rfl) (hpl : (backTo pos (starEach es X.env)).any (·.1) = false := by rfl) : PE X (.Call (.Name x p) (e :: es) [] pos) (tCall sp dvs E t) := by
  obtain ⟨f, fd, ds, h1, h2, h3, h4, h5⟩ := c.ex
  exact pe_call h1 hr hg h2 h3 h4 h5 hx ha hdb he hpl
theorem pe_cl0 (c : Cl X.prog X.w X.K X.mg X.base CX k x ps dvs sp) (hr : Room k X.A) (hg : Gl X x) (hx : Passes CX X E) (hdb : (x == ("__debug__" : Str)) = false := by decide) : PE X (.Call (.Name x p) [] [] pos) (tCall sp dvs E tNil) := by
  obtain ⟨f, fd, ds, h1, h2, h3, h4, h5⟩ := c.ex
  exact pe_call0 h1 hr hg h2 h3 h4 h5 hx hdb
theorem pe_clS {W : L2.St → XK} (c : Cl X.prog X.w X.K X.mg X.base CX k x ps dvs sp) (hr : Room k X.A) (hg : Gl X x) (hx : ∀ σ, PassesAt CX X σ (W σ)) (ha : PA X (e :: es) t) (hdb : (x == ("__debug__" : Str)) = false := by decide)
    (he : starEach (e :: es) X.env = (false, eval e X.env) :: starEach es X.env := by rfl) (hpl : (backTo pos (starEach es X.env)).any (·.1) = false := by rfl) : PE X (.Call (.Name x p) (e :: es) [] pos) (tCallSD sp dvs W t) := by
  obtain ⟨f, fd, ds, h1, h2, h3, h4, h5⟩ := c.ex
  exact pe_callSD h1 hr hg h2 h3 h4 h5 hx ha hdb he hpl
end
section
variable {α β γ δ ε : Type} {r : Rl α} {s : Rl β} {t : Rl γ} {u : Rl δ} {q : Rl ε}
theorem len1 {pre : α → Prop} {f : α → β} : ∀ vs H Q E, Sp1 r pre s f vs H Q E → vs.length = 1 := fun _ _ _ _ ⟨_, _, h, _⟩ => by rw [h]; rfl
theorem len2 {pre : α → β → Prop} {f : α → β → γ} : ∀ vs H Q E, Sp2 r s pre t f vs H Q E → vs.length = 2 := fun _ _ _ _ ⟨_, _, _, _, h, _⟩ => by rw [h]; rfl
theorem len3 {pre : α → β → γ → Prop} {f : α → β → γ → δ} : ∀ vs H Q E, Sp3 r s t pre u f vs H Q E → vs.length = 3 := fun _ _ _ _ ⟨_, _, _, _, _, _, h, _⟩ => by rw [h]; rfl
theorem len4 {pre : α → β → γ → δ → Prop} {f : α → β → γ → δ → ε} : ∀ vs H Q E, Sp4 r s t u pre q f vs H Q E → vs.length = 4 := fun _ _ _ _ ⟨_, _, _, _, _, _, _, _, h, _⟩ => by rw [h]; rfl
end
end Pf

set_option Elab.async false
set_option linter.all false
set_option maxRecDepth 100000
set_option maxHeartbeats 4000000
namespace Pf
open PySem PySem.Spec PyProof.Rows L2
section
variable {α β γ δ : Type} {K : PySem.W.Frag} {σ : L2.St} {H H' : Hp} {ta tb tc te : TE} {tt tu : TT} {r : Rl α} {s : Rl β} {x : α} {y : β} {D : Ends} {tw tv : TS} {g : TG}
/-- tuples stand, and the lists outside S -/
structure LSm (S : Addr → Prop) (H H' : Hp) : Prop where
  tup : TSm H H'
  lst : ∀ a xs, ¬ S a → H a = some (.lst xs) → H' a = some (.lst xs)
variable {S : Addr → Prop}
theorem LSm.refl (H : Hp) : LSm S H H := ⟨TSm.refl H, fun _ _ _ h => h⟩
theorem LSm.trans {H H1 H2 : Hp} (a : LSm S H H1) (b : LSm S H1 H2) : LSm S H H2 := ⟨a.tup.trans b.tup, fun c o h e => b.lst c o h (a.lst c o h e)⟩
theorem LSm.of {H H' : Hp} (e : Same H H') : LSm S H H' := ⟨TSm.of e, fun _ _ _ h => e _ _ h⟩
theorem LSm.upL {H : Hp} {l : Addr} {o : HO} {ys : List V} (hS : S l) (hl : H l = some (.lst ys)) : LSm S H (upd H l o) :=
  ⟨TSm.upL hl, fun a xs n e => by rw [upd_ne (fun z => n (by rw [z]; exact hS))]; exact e⟩
theorem LSm.upD {H : Hp} {l : Addr} {o : HO} {kvs : List (List L2.Key × V)} (hl : H l = some (.dT kvs)) : LSm S H (upd H l o) :=
  ⟨TSm.upD hl, fun a xs n e => by rw [upd_ne (ne_of e hl (by intro z; cases z))]; exact e⟩
theorem LSm.imp {S' : Addr → Prop} {H H' : Hp} (h : ∀ a, S a → S' a) (e : LSm S H H') : LSm S' H H' := ⟨e.tup, fun a xs n q => e.lst a xs (fun z => n (h a z)) q⟩
/-- a list outside S -/
def aX (S : Addr → Prop) (r : Rl α) : Rl (List α) := fun H v xs => ∃ a vs, v = .ref a ∧ ¬ S a ∧ H a = some (.lst vs) ∧ Paired (r H) vs xs
instance [Ms r] : Ms (aX S r) := ⟨fun e ⟨a, vs, h1, h2, h3, h4⟩ => ⟨a, vs, h1, h2, e _ _ h3, Paired.imp h4 fun _ _ q => Mo.mo e q⟩⟩
instance [Mo r] : Mo (aX S r) := ⟨fun e ⟨a, vs, h1, h2, h3, h4⟩ => ⟨a, vs, h1, h2, e.lst _ _ h3, Paired.imp h4 fun _ _ q => Mo.le e q⟩⟩
theorem aX.l {H : Hp} {v : V} {xs : List α} (h : aX S r H v xs) : aL r H v xs := by
  obtain ⟨a, vs, h1, _, h3, h4⟩ := h
  exact ⟨a, vs, h1, h3, h4⟩
theorem aX.ls [Im r] {H H' : Hp} {v : V} {xs : List α} (e : LSm S H H') (h : aX S r H v xs) : aX S r H' v xs := by
  obtain ⟨a, vs, h1, h2, h3, h4⟩ := h
  exact ⟨a, vs, h1, h2, e.lst _ _ h2 h3, Paired.imp h4 fun _ _ q => Im.ts e.tup q⟩
theorem paired_ts [Im r] {H H' : Hp} {vs : List V} {xs : List α} (e : TSm H H') (h : Paired (r H) vs xs) : Paired (r H') vs xs := Paired.imp h fun _ _ q => Im.ts e q
theorem kvP_ts [Im s] {H H' : Hp} {kvs : List (List L2.Key × V)} {g : List (List Int × β)} (e : TSm H H') (h : KvP s H kvs g) : KvP s H' kvs g := Paired.imp h fun _ _ q => ⟨q.1, Im.ts e q.2⟩
theorem kvP_ls [Im r] {H H' : Hp} {kvs : List (List L2.Key × V)} {g : List (List Int × List α)} (e : LSm S H H') (h : KvP (aX S r) H kvs g) : KvP (aX S r) H' kvs g := Paired.imp h fun _ _ q => ⟨q.1, aX.ls e q.2⟩
theorem kvP_same [Ms s] {H H' : Hp} {kvs : List (List L2.Key × V)} {g : List (List Int × β)} (e : Same H H') (h : KvP s H kvs g) : KvP s H' kvs g := KvP.sm e h
theorem paired_same [Ms r] {H H' : Hp} {vs : List V} {xs : List α} (e : Same H H') (h : Paired (r H) vs xs) : Paired (r H') vs xs := Paired.imp h fun _ _ q => Mo.mo e q
theorem kvP_imp {t : Rl β} {H : Hp} {kvs : List (List L2.Key × V)} {g : List (List Int × β)} (f : ∀ v x, s H v x → t H v x) (h : KvP s H kvs g) : KvP t H kvs g := Paired.imp h fun _ _ q => ⟨q.1, f _ _ q.2⟩
/-- for over a list outside S, while only S and dicts change -/
theorem s_forX [Ms r] [Im r] {xs : List α} (h : Ed te σ H (aX S r) xs) (Pv : Nat → L2.St → Hp → Prop) (h0 : ∀ H1, Same H H1 → Pv 0 σ H1)
    (hs : ∀ H1 i x v σ' H', Same H H1 → xs[i]? = some x → Pv i σ' H' → LSm S H1 H' → r H' v x → g v σ' H' fun σ2 H2 => tw { D with nx := fun σ3 H3 => Pv (i + 1) σ3 H3 ∧ LSm S H1 H3, ct := fun σ3 H3 => Pv (i + 1) σ3 H3 ∧ LSm S H1 H3, bk := D.nx } σ2 H2) (hd : ∀ H1 σ' H', Same H H1 → LSm S H1 H' → Pv xs.length σ' H' → D.nx σ' H') : tFor (iList K te) g tw D σ H :=
  h H (Same.refl H) _ fun v H1 e ⟨a, vs, h1, h2, h3, h4⟩ => ⟨a, h1, ⟨vs, SqL.of h3⟩, for_list (xs := vs) (fun i σ' H' => Pv i σ' H' ∧ LSm S H1 H') ⟨h0 H1 e, LSm.refl _⟩ (fun i σ' H' _ p => SqL.of (p.2.lst _ _ h2 h3)) (fun i w σ' H' hi p => by
    obtain ⟨x, hx, hr⟩ := Paired.get h4 hi
    exact hs H1 i x w σ' H' e hx p.1 p.2 (Im.ts p.2.tup hr)) fun σ' H' p => hd H1 σ' H' e p.2 (by rw [← h4.length]; exact p.1)⟩
/-- of a list of one's own: an item, the length -/
theorem ed_own [Ms r] {l : Addr} {ws : List V} {xs : List α} {i : Nat} (h : σ[i]? = some (some (.ref l))) (hl : H l = some (.lst ws)) (hp : Paired (r H) ws xs) : Ed (tVar i) σ H (aL r) xs := ed_var h ⟨l, ws, rfl, hl, hp⟩
theorem ed_ownD [Ms s] {d : Addr} {kvs : List (List L2.Key × V)} {g : List (List Int × β)} {i : Nat} (h : σ[i]? = some (some (.ref d))) (hd : H d = some (.dT kvs)) (hp : KvP s H kvs g) : Ed (tVar i) σ H (aD s) g := ed_var h ⟨d, kvs, rfl, Rd.of hd, hp⟩
/-- len(d) -/
abbrev rLenT : List V → Hp → VK → Prop := fun xs H Q => ∃ (p : Addr) (kvs : List (List L2.Key × V)), xs = [.ref p] ∧ H p = some (.dT kvs) ∧ Q (.int ((kvs.length : Nat) : Int)) H
theorem ed_lenD {d : Addr} {kvs : List (List L2.Key × V)} {i : Nat} (h : σ[i]? = some (some (.ref d))) (hd : H d = some (.dT kvs)) : Ed (tCB rLenT (tCons (tVar i) tNil)) σ H aI (kvs.length : Int) := fun H1 e Q q =>
  ⟨.ref d, h, d, kvs, rfl, e _ _ hd, q _ H1 (Same.refl _) rfl⟩
/-- a store at a key that is not there -/
theorem putK_snoc {r : Rl β} {H : Hp} {kvs : List (List L2.Key × V)} {g : List (List Int × β)} {c : List Int} (v : V) (h : KvP r H kvs g) (hn : look g c = none) : putK kvs (kk c) v = kvs ++ [(kk c, v)] := putK_new v (KvP.no h hn)
end
section
variable {X : Cx} {C : Addr} {bmB : List Value} {B newId initId : String}
/-- X() -/
theorem pmk_own0 {x : Str} {p pos : Pos} (F : ExcBaseFacts B newId initId bmB) (q : PySem.W.excIn X.K C bmB newId = true) (gC : X.mg x = some (.ref C)) (kC : PySem.W.keepIn X.K (.ref C) = true) (r : Raises X (.ref C)) (hg : Gl X x)
    (hdb : (x == ("__debug__" : Str)) = false := by decide) : PMk X (.Call (.Name x p) [] [] pos) (fun _ H Q => Q (.ref C) none H) := by
  intro pins s σ H Q I h
  refine wpAny_Call_Name_kw (ld_glob I hg gC ?_ hdb)
  refine PySem.W.callWith_K0 I.kIn kC ?_
  show wpAny _ _ (call (.ref C) []) _ _ _
  obtain ⟨bm, N, nm, qn, bs, hdct, sn, sub, ab, col, dd, k0, k1, k2, k3, k5, mN, hC, hN, hni, T⟩ := exc_obj I.kIn q
  refine wpAny_call_exc_subT F T hC hN hni (fun h' e hm => ?_) (by show 0 ≤ sizeLine; rw [sizeLine_eq]; omega)
  exact mk_of I hm r h (I.hok.gone hm.new)
/-- an own exception class without __init__ of its own, over ValueError -/
structure Exc0 (K : PySem.W.Frag) (mg : Str → Option Value) (n : Str) (C : Addr) : Prop where
  ex : PySem.W.excIn K C [.type "ValueError", .type "Exception", .type "BaseException", .type "object"] "ValueError.__new__" = true
  g : mg n = some (.ref C)
  kp : PySem.W.keepIn K (.ref C) = true
  sub : PySem.W.subIn K (.ref C) (.type "BaseException") = some true
  ty : PySem.W.typeIn K (.ref C) = some (.type "type")
/-- what a def wishes of what leaves it -/
abbrev wE (E : XK) : WX := fun cls d _ H => E cls d H
end
end Pf

set_option Elab.async false
set_option linter.all false
set_option maxRecDepth 100000
set_option maxHeartbeats 4000000
namespace Pf
open PySem PySem.Spec PyProof.Rows L2
open PySem.W (EachIs AllAlike Sortable dataLe sorted_data dataKind alike)
section
variable {α β γ δ : Type} {K : PySem.W.Frag} {σ : L2.St} {H H' : Hp} {ta tb tc te tk tv : TE} {tt tu : TT} {r : Rl α} {s : Rl β} {x : α} {y : β} {D : Ends} {tw : TS} {g : TG}
theorem s_while (W : Nat → L2.St → Hp → Prop) (m0 : Nat) (h0 : W m0 σ H) (turn : ∀ m σ' H', W m σ' H' → ∃ b, EdT tt σ' H' b ∧ (b = true → ∀ H1, Same H' H1 → tw { D with nx := fun σ2 H2 => ∃ m', m' < m ∧ W m' σ2 H2, ct := fun σ2 H2 => ∃ m', m' < m ∧ W m' σ2 H2, bk := D.nx } σ' H1) ∧ (b = false → ∀ H1, Same H' H1 → D.nx σ' H1)) : tWhile tt tw D σ H := by
  refine ⟨W, ⟨m0, h0⟩, fun m σ' H' w => ?_⟩
  obtain ⟨b, h1, h2, h3⟩ := turn m σ' H' w
  refine h1 H' (Same.refl _) _ fun H1 e => ?_
  cases b with
  | true => rw [if_pos rfl]; exact ⟨_, fun _ _ n => n, h2 rfl H1 e⟩
  | false => rw [if_neg (by decide)]; exact h3 rfl H1 e
theorem EdL.edX {S : Addr → Prop} {xs : List α} (h : EdL te σ H r xs) (hS : ∀ a, S a → H a ≠ none) : Ed te σ H (aX S r) xs := fun H1 e Q q => h H1 e Q fun l vs H2 hl e2 h2 hp => q _ H2 e2 ⟨l, vs, rfl, fun z => hS l z (e.free hl), h2, hp⟩
/-- a new dict -/
def EdD (te : TE) (σ : L2.St) (H : Hp) (s : Rl β) (gr : List (List Int × β)) : Prop := ∀ H1, Same H H1 → ∀ Q : VK, (∀ d kvs H2, H1 d = none → Same H1 H2 → H2 d = some (.dT kvs) → KvP s H2 kvs gr → Q (.ref d) H2) → te σ H1 Q
variable {gr : List (List Int × β)} {c : List Int}
theorem EdD.ed (h : EdD te σ H s gr) : Ed te σ H (aU s) gr := fun H1 e Q q => h H1 e Q fun d kvs H2 _ e2 hd hp => q _ H2 e2 ⟨d, kvs, rfl, hd, hp⟩
theorem d_disp1 [Ms s] [Im s] (hk : Ed tk σ H (aT aI) c) (hv : Ed tv σ H s y) : EdD (tDisp1 tk tv) σ H s [(c, y)] := fun H1 e Q q p hp =>
  hk _ (e.trans (Same.new hp)) _ fun x H2 e2 hx => hv H2 ((e.trans (Same.new hp)).trans e2) _ fun u H3 e3 hu => by
    obtain ⟨b, h1, h2⟩ := aTI_iff.mp (Mo.mo e3 hx)
    have hd : H3 p = some (.dT []) := e3 _ _ (e2 _ _ upd_same)
    exact ⟨kk c, b, h1, by rw [kk_kV]; exact h2, hd, q p _ _ hp (Same.mut ((Same.new hp).trans (e2.trans e3)) hp) upd_same (.cons ⟨rfl, Im.upD hd hu⟩ .nil)⟩
theorem s_asgD {i : Nat} (h : EdD te σ H s gr) (k : ∀ d kvs H1, H d = none → Same H H1 → H1 d = some (.dT kvs) → KvP s H1 kvs gr → D.nx (σ.set i (some (.ref d))) H1) : tAsg te (gName i) D σ H := h H (Same.refl H) _ k
theorem foldl_put : ∀ (es : List (List L2.Key × Addr × V)) (acc : List (List L2.Key × V)), (acc.map (·.1) ++ es.map (·.1)).Nodup → es.foldl (fun acc e => putK acc e.1 e.2.2) acc = acc ++ es.map fun e => (e.1, e.2.2)
  | [], acc, _ => by simp
  | e :: es, acc, h => by
    have h1 : valV acc e.1 = none := by
      cases hv : valV acc e.1 with
      | none => rfl
      | some v =>
        exfalso
        have : (acc.any fun kv => decide (kv.1 = e.1)) = true := by rw [valV_any, hv]; rfl
        obtain ⟨kv, hm, hk⟩ := List.any_eq_true.mp this
        have h2 := (List.nodup_append.mp h).2.2 kv.1 (List.mem_map_of_mem hm) e.1 (by simp)
        exact h2 (of_decide_eq_true hk)
    rw [List.foldl_cons, putK_new _ h1, foldl_put es]
    · simp
    · simpa [List.append_assoc] using h
theorem dict_es (K : PySem.W.Frag) {H : Hp} : ∀ {vs : List V} {ps : List (List Int × β)}, Paired (aP (aT aI) s H) vs ps → ∃ (as : List Addr) (es : List (List L2.Key × Addr × V)), vs = as.map V.ref ∧ Paired (fun p (e : List L2.Key × Addr × V) => SqT K H p [.ref e.2.1, e.2.2] ∧ H e.2.1 = some (.tup (e.1.map kV))) as es ∧ Paired (fun e p => e.1 = kk p.1 ∧ s H e.2.2 p.2) es ps
  | _, _, .nil => ⟨[], [], rfl, .nil, .nil⟩
  | _, _, .cons (b := p) h t => by
    obtain ⟨as, es, h1, h2, h3⟩ := dict_es K t
    obtain ⟨a, u, w, rfl, g2, g3, g4⟩ := h
    obtain ⟨b, rfl, g5⟩ := aTI_iff.mp g3
    exact ⟨a :: as, (kk p.1, b, w) :: es, by rw [h1]; rfl, .cons ⟨SqT.of g2, by rw [kk_kV]; exact g5⟩ h2, .cons ⟨rfl, g4⟩ h3⟩
theorem es_keys {H : Hp} : ∀ {es : List (List L2.Key × Addr × V)} {ps : List (List Int × β)}, Paired (fun e p => e.1 = kk p.1 ∧ s H e.2.2 p.2) es ps → es.map (·.1) = ps.map fun p => kk p.1
  | _, _, .nil => rfl
  | _, _, .cons h t => by rw [List.map_cons, List.map_cons, h.1, es_keys t]
theorem es_kv {H : Hp} : ∀ {es : List (List L2.Key × Addr × V)} {ps : List (List Int × β)}, Paired (fun e p => e.1 = kk p.1 ∧ s H e.2.2 p.2) es ps → KvP s H (es.map fun e => (e.1, e.2.2)) ps
  | _, _, .nil => .nil
  | _, _, .cons h t => .cons h (es_kv t)
theorem nodup_kk {cs : List (List Int)} (h : cs.Nodup) : (cs.map kk).Nodup := by
  unfold List.Nodup at h ⊢
  rw [List.pairwise_map]
  exact h.imp fun hne he => hne (kk_inj he)
theorem d_dict [Ms s] (h : Ed te σ H (aL (aP (aT aI) s)) gr) (hn : (gr.map (·.1)).Nodup) : EdD (tCB (rDictT K) (tCons te tNil)) σ H s gr := fun H1 e Q q =>
  h H1 e _ fun v H2 e2 ⟨a, vs, h1, h2, h3⟩ => by
    obtain ⟨as, es, rfl, h5, h6⟩ := dict_es K h3
    refine ⟨a, as, es, by rw [h1], SqL.of h2, h5, fun d hd => q d _ _ (e2.free hd) (e2.trans (Same.new hd)) upd_same ?_⟩
    rw [foldl_put es [] (by
      have := es_keys h6
      show (([] : List (List L2.Key)) ++ es.map (·.1)).Nodup
      rw [List.nil_append, this]
      have h7 := nodup_kk hn
      rw [List.map_map] at h7
      exact h7), List.nil_append]
    exact KvP.sm (Same.new hd) (es_kv h6)
theorem isKeys_paired {H : Hp} : ∀ {kvs : List (List L2.Key × V)} {gr : List (List Int × β)} {bs : List Addr}, KvP s H kvs gr → L2.IsKeys H kvs bs → Paired (aT aI H) (bs.map V.ref) (gr.map (·.1))
  | _, _, _, .nil, .nil => .nil
  | _, _, _, .cons h t, .cons h' t' => .cons (aTI_iff.mpr ⟨_, rfl, by have := h'; rw [h.1, kk_kV] at this; exact this⟩) (isKeys_paired t t')
theorem el_listD (h : Ed te σ H (aD s) gr) : EdL (tCB (fun xs H Q => ∃ d kvs, xs = [V.ref d] ∧ Rd H d (.dT kvs) ∧ ∀ p bs, H p = none → IsKeys H kvs bs → Q (.ref p) (upd H p (.lst (bs.map V.ref)))) (tCons te tNil)) σ H (aT aI) (gr.map (·.1)) := fun H1 e Q q =>
  h H1 e _ fun v H2 e2 ⟨d, kvs, h1, h2, h3⟩ => ⟨d, kvs, by rw [h1], h2, fun p bs hp hk => q p _ _ (e2.free hp) (e2.trans (Same.new hp)) upd_same (Paired.imp (isKeys_paired h3 hk) fun _ _ w => Mo.mo (Same.new hp) w)⟩
def sortC (xs : List (List Int)) : List (List Int) := xs.mergeSort (dataLe false encC)
theorem sortC_perm (xs : List (List Int)) : (sortC xs).Perm xs := List.mergeSort_perm _ _
theorem mem_sortC {xs : List (List Int)} {c : List Int} : c ∈ sortC xs ↔ c ∈ xs := (sortC_perm xs).mem_iff
theorem length_sortC (xs : List (List Int)) : (sortC xs).length = xs.length := (sortC_perm xs).length_eq
theorem el_sortedD (h : Ed te σ H (aD s) gr) (hne : ∀ p ∈ gr, p.1 ≠ []) : EdL (tCB rSortedDT (tCons te tNil)) σ H (aT aI) (sortC (gr.map (·.1))) := fun H1 e Q q =>
  h H1 e _ fun v H2 e2 ⟨d, kvs, h1, h2, h3⟩ => ⟨d, kvs, gr.map (·.1), by rw [h1], h2, by rw [KvP.keys h3, List.map_map]; rfl, fun c hc => by
    obtain ⟨p, hp, rfl⟩ := List.mem_map.mp hc
    exact hne p hp, fun p bs hp hk => q p _ _ (e2.free hp) (e2.trans (Same.new hp)) upd_same (by
      have : ∀ {bs : List Addr} {cs : List (List Int)}, Paired (fun b c => H2 b = some (.tup (c.map V.int))) bs cs → Paired (aT aI (upd H2 p (.lst ((bs.map V.ref))))) (bs.map V.ref) cs := fun k => by
        rename_i bs0 cs0
        have z : ∀ (o : HO), ∀ {bs : List Addr} {cs : List (List Int)}, Paired (fun b c => H2 b = some (.tup (c.map V.int))) bs cs → Paired (aT aI (upd H2 p o)) (bs.map V.ref) cs := by
          intro o bs cs k
          induction k with
          | nil => exact .nil
          | cons h t ih => exact .cons (aTI_iff.mpr ⟨_, rfl, by rw [upd_ne (ne_of_none h hp)]; exact h⟩) ih
        exact z _ k
      exact this hk)⟩
theorem zip_fst' : ∀ {vs : List V} {xs : List (List Int)}, vs.length = xs.length → (vs.zip xs).map (·.1) = vs
  | [], [], _ => rfl
  | v :: vs, x :: xs, h => by rw [List.zip_cons_cons, List.map_cons, zip_fst' (by simpa using h)]
  | [], _ :: _, h => by cases h
  | _ :: _, [], h => by cases h
theorem zip_snd' : ∀ {vs : List V} {xs : List (List Int)}, vs.length = xs.length → (vs.zip xs).map (·.2) = xs
  | [], [], _ => rfl
  | v :: vs, x :: xs, h => by rw [List.zip_cons_cons, List.map_cons, zip_snd' (by simpa using h)]
  | [], _ :: _, h => by cases h
  | _ :: _, [], h => by cases h
theorem paired_zip {F : V → List Int → Prop} : ∀ {vs : List V} {xs : List (List Int)}, Paired F vs xs → ∀ p ∈ vs.zip xs, F p.1 p.2
  | _, _, .nil, p, h => by cases h
  | _, _, .cons a t, p, h => by
    rw [List.zip_cons_cons] at h
    rcases List.mem_cons.mp h with rfl | h
    · exact a
    · exact paired_zip t p h
theorem zip_paired {F : V → List Int → Prop} : ∀ {ps : List (V × List Int)}, (∀ p ∈ ps, F p.1 p.2) → Paired F (ps.map (·.1)) (ps.map (·.2))
  | [], _ => .nil
  | p :: ps, h => .cons (h p (List.mem_cons_self ..)) (zip_paired fun q hq => h q (List.mem_cons_of_mem _ hq))
theorem ms_map {α' β' : Type} {f : α' → β'} {le : β' → β' → Bool} (xs : List α') : (xs.mergeSort fun a b => le (f a) (f b)).map f = (xs.map f).mergeSort le :=
  List.map_mergeSort (fun _ _ _ _ => rfl)
theorem el_sortedC {xs : List (List Int)} (h : Ed te σ H (aL (aT aI)) xs) (hne : ∀ c ∈ xs, c ≠ []) : EdL (tCB (rSortedG K) (tCons te tNil)) σ H (aT aI) (sortC xs) := fun H1 e Q q =>
  h H1 e _ fun v H2 e2 ⟨a, vs, h1, h2, h3⟩ => by
    have hl := h3.length
    have em : ((vs.zip xs).map fun p => (p.1, encC p.2)).map (·.1) = vs := by
      rw [List.map_map]; exact zip_fst' hl
    have em2 : ((vs.zip xs).map fun p => (p.1, encC p.2)).map (·.2) = xs.map encC := by
      have := congrArg (List.map encC) (zip_snd' hl)
      rw [List.map_map] at this
      rw [List.map_map]; exact this
    refine ⟨a, (vs.zip xs).map fun p => (p.1, encC p.2), by rw [h1], by rw [em]; exact SqL.of h2, ?_, ?_, ?_, ?_, fun p hp => q p _ _ (e2.free hp) (e2.trans (Same.new hp)) upd_same ?_⟩
    · intro b hb
      obtain ⟨z, hz, rfl⟩ := List.mem_map.mp hb
      obtain ⟨b, h4, h5⟩ := aTI_iff.mp (paired_zip h3 z hz)
      show Dp K H2 z.1 (encC z.2)
      rw [h4]; exact dp_crowd h5
    · rw [em2]; exact PySem.W.AllAlike.of encC_alike
    · rw [em2]
      refine Or.inl fun dd hdd => ?_
      obtain ⟨c, hc', rfl⟩ := List.mem_map.mp hdd
      cases c with
      | nil => exact absurd rfl (hne _ hc')
      | cons x r => exact ⟨_, _, rfl⟩
    · intro b hb
      obtain ⟨z, hz, rfl⟩ := List.mem_map.mp hb
      exact depth_encC z.2
    · have e5 : (((vs.zip xs).map fun p => (p.1, encC p.2)).mergeSort (dataLe false (·.2))).map (·.1) = ((vs.zip xs).mergeSort (dataLe false fun p => encC p.2)).map (·.1) := by
        have := ms_map (f := fun p : V × List Int => (p.1, encC p.2)) (le := dataLe false (fun p : V × PyData => p.2)) (vs.zip xs)
        rw [← this, List.map_map]; rfl
      have e6 : ((vs.zip xs).mergeSort (dataLe false fun p => encC p.2)).map (·.2) = sortC xs := by
        have := ms_map (f := fun p : V × List Int => p.2) (le := dataLe false encC) (vs.zip xs)
        rw [zip_snd' hl] at this
        exact this
      rw [e5, ← e6]
      refine zip_paired fun z hz => ?_
      have hz' : z ∈ vs.zip xs := (List.mergeSort_perm _ _).mem_iff.mp hz
      exact Mo.mo (Same.new hp) (paired_zip h3 z hz')
theorem ed_sumT {xs : List Int} (h : Ed te σ H (aT aI) xs) : Ed (tCB (rSumT K) (tCons te tNil)) σ H aI xs.sum := fun H1 e Q q =>
  h H1 e _ fun v H2 e2 hv => by
    obtain ⟨a, h1, h2⟩ := aTI_iff.mp hv
    exact ⟨a, xs, by rw [h1], SqT.of h2, q _ H2 e2 rfl⟩
theorem ed_rep1 {xs : List α} (h : Ed ta σ H (aT r) xs) (hb : Ed tb σ H aI 1) [Ms r] : Ed (tOp (rRepT1 K) ta tb) σ H (aT r) xs :=
  ed_op h hb fun H1 _ v u ⟨a, vs, h1, h2, h3⟩ hu Q q => ⟨a, vs, h1, hu, SqT.of h2, q _ H1 (Same.refl _) ⟨a, vs, h1, h2, h3⟩⟩
theorem src_keys {d : Addr} {od : Obj} {kvs : List (List L2.Key × V)} {i : Nat} (h : σ[i]? = some (some (.ref d))) (hd : H d = some (.frz od (.dT kvs))) (hk : kvs.map (·.1) = gr.map fun p => kk p.1) : Src (iKeys (tVar i)) σ H (aT aI) (gr.map (·.1)) := fun H1 e R q =>
  ⟨.ref d, h, d, od, rfl, Or.inr ⟨kvs, e _ _ hd, q _ _ H1 (Same.refl _) (e _ _ hd) (gives_keys hk)⟩⟩
/-- [f(k) for k in d if t(k)] -/
theorem el_lcK {i j : Nat} {vs : List Nat} {v : V} {t : List Int → Bool} {f : List Int → γ} {u : Rl γ} [Im u] [Mo u] [Ms s] (hσ : σ[i]? = some (some v)) (hv : aU s H v gr) (hi : (wipe σ vs)[i]? = some (some v) := by rfl) (hz : gr.length ≤ 90000) (hw : ∀ v, wipe ((wipe σ vs).set j (some v)) vs = wipe σ vs)
    (ht : ∀ x v H1, Le H H1 → x ∈ gr.map (·.1) → aT aI H1 v x → EdT tt ((wipe σ vs).set j (some v)) H1 (t x)) (he : ∀ x v H1, Le H H1 → x ∈ gr.map (·.1) → aT aI H1 v x → t x = true → Ed te ((wipe σ vs).set j (some v)) H1 u (f x)) :
    EdL (tLockE (tLc (iKeys (tVar i)) (gName j) tt te vs)) σ H u (((gr.map (·.1)).filter t).map f) := fun H0 e Q q => by
  obtain ⟨d, kvs, rfl, hd, hp⟩ := Mo.mo e hv
  refine ⟨d, .dT kvs, hd, True.intro, fun od => ?_⟩
  have lk : ∀ H1, Same (upd H0 d (.frz od (.dT kvs))) H1 → Le H H1 := fun H1 e1 => (Le.of e).trans ((Le.lock hd).trans (Le.of e1))
  refine el_lc1 (t := t) (f := f) (u := u) (H := upd H0 d (.frz od (.dT kvs))) (src_keys hσ upd_same (KvP.keys hp)) (by rw [List.length_map]; exact hz) hw (fun x v H1 e1 hm hx => ht x v H1 (lk H1 e1) hm hx) (fun x v H1 e1 hm hx hb => he x v H1 (lk H1 e1) hm hx hb) _ (Same.refl _) _ fun l ws H2 hl e2 hl2 hpw => ?_
  have hd2 : H2 d = some (.frz od (.dT kvs)) := e2 _ _ upd_same
  have hne : l ≠ d := fun z => by rw [z, upd_same] at hl; cases hl
  refine ⟨hd2, q l ws _ (by rw [upd_ne hne] at hl; exact hl) (Same.lock hd e2) (by rw [upd_ne hne]; exact hl2) (Paired.imp hpw fun _ _ w => Mo.le (Le.unlock hd2) w)⟩
/-- for k in d -/
theorem s_forK {i j : Nat} {d : Addr} {kvs : List (List L2.Key × V)} (hσ : σ[i]? = some (some (.ref d))) (hd : H d = some (.dT kvs)) (hk : kvs.map (·.1) = gr.map fun p => kk p.1) (Pv : Nat → L2.St → Hp → Prop) (h0 : ∀ od, Pv 0 σ (upd H d (.frz od (.dT kvs))))
    (hs : ∀ od n x v σ' H' H'' rt bk, (gr.map (·.1))[n]? = some x → Pv n σ' H' → Same H' H'' → H'' d = some (.frz od (.dT kvs)) → aT aI H'' v x → tw { nx := fun σ3 H3 => Pv (n + 1) σ3 H3 ∧ H3 d = some (.frz od (.dT kvs)), ct := fun σ3 H3 => Pv (n + 1) σ3 H3 ∧ H3 d = some (.frz od (.dT kvs)), bk := bk, rt := rt } (σ'.set j (some v)) H'')
    (hdn : ∀ od σ' H', Pv gr.length σ' H' → H' d = some (.frz od (.dT kvs)) → D.nx σ' (upd H' d (.dT kvs))) : tLock (tFor (iKeys (tVar i)) (gName j) tw) D σ H := by
  refine ⟨d, .dT kvs, hd, True.intro, fun od => ⟨.ref d, hσ, d, od, rfl, Or.inr ⟨kvs, upd_same, ?_⟩⟩⟩
  have gv := gives_keys (d := d) (od := od) (kvs := kvs) (g := gr) hk
  refine for_it gv.walk (fun n σ' H' => Pv n σ' H' ∧ H' d = some (.frz od (.dT kvs))) ⟨h0 od, upd_same⟩ (fun n σ' H' _ p => p.2) (fun n v σ' H' H'' hn p y => ?_) fun σ' H' p => ⟨p.2, hdn od σ' H' (by have := p.1; rw [List.length_map] at this; exact this) p.2⟩
  obtain ⟨y1, y2⟩ := y
  have hx : (gr.map (·.1))[n]? = some (gr.map (·.1))[n] := List.getElem?_eq_getElem hn
  exact hs od n _ v σ' H' H'' _ _ hx p.1 y1 (y1 _ _ p.2) (y2 _ hx)
end
end Pf

set_option Elab.async false
set_option linter.all false
set_option maxRecDepth 100000
set_option maxHeartbeats 4000000
namespace Pf
open PySem PySem.Spec PyProof.Rows L2
section
variable {α β γ δ : Type} {K : PySem.W.Frag} {σ : L2.St} {H H' H0 : Hp} {ta tb tc te tk tv : TE} {tt tu : TT} {r : Rl α} {s : Rl β} {x : α} {y : β} {D : Ends} {tw : TS} {g : TG}
/-- what a value is in the heap H0 -/
def aAt (r : Rl α) (H0 : Hp) : Rl α := fun _ v x => r H0 v x
instance : Mo (aAt r H0) := ⟨fun _ h => h⟩
instance : Im (aAt r H0) := ⟨fun _ h => h⟩
theorem aU.at {g : List (List Int × β)} {v : V} (e : Same H0 H) (h : aU s H0 v g) : aU (aAt s H0) H v g := by
  obtain ⟨d, kvs, h1, h2, h3⟩ := h
  exact ⟨d, kvs, h1, e _ _ h2, h3⟩
theorem aD.at {g : List (List Int × β)} {v : V} (e : Same H0 H) (h : aD s H0 v g) : aD (aAt s H0) H v g := by
  obtain ⟨d, kvs, h1, h2, h3⟩ := h
  exact ⟨d, kvs, h1, (Le.of e).dct _ _ h2, h3⟩
/-- for over a list of the base heap -/
theorem s_forH [Ms r] {xs : List α} (h : Ed te σ H (aAt (aL r) H0) xs) (Pv : Nat → L2.St → Hp → Prop) (h0 : ∀ H1, Same H H1 → Pv 0 σ H1) (hP : ∀ i σ' H', Pv i σ' H' → Same H0 H')
    (hs : ∀ i x v σ' H', xs[i]? = some x → Pv i σ' H' → r H' v x → g v σ' H' fun σ2 H2 => tw { D with nx := Pv (i + 1), ct := Pv (i + 1), bk := D.nx } σ2 H2) (hd : ∀ σ' H', Pv xs.length σ' H' → D.nx σ' H') : tFor (iList K te) g tw D σ H :=
  h H (Same.refl H) _ fun v H1 e ⟨a, vs, h1, h2, h3⟩ => ⟨a, h1, ⟨vs, SqL.of (hP 0 _ _ (h0 H1 e) _ _ h2)⟩, for_list (xs := vs) Pv (h0 H1 e) (fun i σ' H' _ p => SqL.of (hP i _ _ p _ _ h2)) (fun i w σ' H' hi p => by
    obtain ⟨x, hx, hr⟩ := Paired.get h3 hi
    exact hs i x w σ' H' hx p (Mo.mo (hP i _ _ p) hr)) fun σ' H' p => hd σ' H' (by rw [← h3.length]; exact p)⟩
/-- an address -/
def aA : Rl Addr := fun _ v a => v = .ref a
instance : Mo aA := ⟨fun _ h => h⟩
instance : Im aA := ⟨fun _ h => h⟩
theorem ed_aV {a : Addr} (h : Ed te σ H aA a) : Ed te σ H (aV (.ref a)) () := fun H1 e Q q => h H1 e Q fun v H2 e2 hv => q v H2 e2 hv
theorem ed_non : Ed (tC .non) σ H (aO r) none := fun H1 _ Q q => q _ H1 (Same.refl _) rfl
/-- a list of lists that are new -/
structure Fresh (H1 H2 : Hp) (as : List Addr) : Prop where
  nd : as.Nodup
  new : ∀ a ∈ as, H1 a = none
  nil : ∀ a ∈ as, H2 a = some (.lst [])
/-- [(x, []) for x in xs] -/
theorem el_lcE {wi : TI} {j : Nat} {vs : List Nat} {xs : List α} [Im r] [Ms r] (h : Src wi σ H r xs) (hz : xs.length ≤ 90000) (hi : ∀ v, ((wipe σ vs).set j (some v))[j]? = some (some v)) (hw : ∀ v, wipe ((wipe σ vs).set j (some v)) vs = wipe σ vs) (H1 : Hp) (e : Same H H1) (Q : VK)
    (q : ∀ l ws as H2, H1 l = none → Same H1 H2 → H2 l = some (.lst ws) → as.length = xs.length → Paired (aP r aA H2) ws (xs.zip as) → Fresh H1 H2 as → l ∉ as → Q (.ref l) H2) :
    tLc wi (gName j) tYes (tTup (tCons (tVar j) (tCons (tLst tNil) tNil))) vs σ H1 Q := h H1 e _ fun J G H2 e1 hG gv Dl hD => by
  refine lc_it gv.walk (fun i H' => H2 Dl = none ∧ Same H2 H' ∧ G H' ∧ ∃ ws as, H' Dl = some (.lst ws) ∧ as.length = i ∧ Paired (aP r aA H') ws ((xs.take i).zip as) ∧ Fresh H2 H' as ∧ Dl ∉ as) ⟨hD, Same.new hD, gv.same _ _ (Same.new hD) hG, [], [], upd_same, rfl, (by simp; exact .nil), ⟨List.nodup_nil, (fun a h => nomatch h), (fun a h => nomatch h)⟩, (fun h => nomatch h)⟩ (fun i H' _ p => p.2.2.1) ?_ ?_
  · rintro i v H3 H4 hi' ⟨p1, p2, p3, ws, as, p4, p5, p6, p7, p8⟩ ⟨e3, y3⟩
    have hx : xs[i]? = some xs[i] := List.getElem?_eq_getElem hi'
    have hD4 : H4 Dl = some (.lst ws) := e3 _ _ p4
    have e4 := p2.trans e3
    have hl : ws.length ≤ i := by
      have h1 := p6.length
      rw [List.length_zip, List.length_take] at h1
      omega
    refine ⟨hw v, ?_⟩
    show tYes _ _ _
    refine ⟨v, hi v, Nat.zero_le _, fun a ha => ⟨by show 2 ≤ sizeLine; decide, fun t ht => ?_⟩⟩
    have e5 : Same H4 (upd (upd H4 a (.lst [])) t (.tup [v, .ref a])) := (Same.new ha).trans (Same.new ht)
    have hta : a ≠ t := fun z => by rw [← z, upd_same] at ht; cases ht
    have hDt : Dl ≠ t := fun z => by rw [← z, upd_ne (fun w => by rw [← w, hD4] at ha; cases ha), hD4] at ht; cases ht
    have hDa : Dl ≠ a := fun z => by rw [← z, hD4] at ha; cases ha
    have hD5 := e5 _ _ hD4
    have e6 : Same H2 (upd (upd (upd H4 a (.lst [])) t (.tup [v, .ref a])) Dl (.lst (ws ++ [.ref t]))) := Same.mut (e4.trans e5) p1
    have haH : H2 a = none := e4.free ha
    have has : a ∉ as := fun z => by rw [e3 _ _ (p7.nil a z)] at ha; cases ha
    refine ⟨ws, hD5, sz_lt (by omega), p1, e6, gv.same _ _ e6 hG, ws ++ [.ref t], as ++ [a], upd_same, by rw [List.length_append, p5]; rfl, ?_, ⟨List.nodup_append.mpr ⟨p7.nd, by simp, fun b hb c hc => by rw [List.mem_singleton.mp hc]; exact fun z => has (z ▸ hb)⟩, fun b hb => ?_, fun b hb => ?_⟩, ?_⟩
    · have e7 : xs.take (i + 1) = xs.take i ++ [xs[i]] := by rw [List.take_succ, hx]; rfl
      rw [e7, List.zip_append (by rw [List.length_take, p5]; omega)]
      refine Paired.app (Paired.imp p6 fun _ _ w => Im.upL hD5 (Mo.mo (e3.trans e5) w)) (.cons (Im.upL hD5 ?_) .nil)
      exact ⟨t, v, .ref a, rfl, upd_same, Mo.mo e5 (y3 _ hx), rfl⟩
    · rcases List.mem_append.mp hb with h | h
      · exact p7.new b h
      · rw [List.mem_singleton.mp h]; exact haH
    · rcases List.mem_append.mp hb with h | h
      · have : Dl ≠ b := fun z => p8 (z ▸ h)
        rw [upd_ne (Ne.symm this)]; exact e5 _ _ (e3 _ _ (p7.nil b h))
      · rw [List.mem_singleton.mp h, upd_ne (Ne.symm hDa), upd_ne hta]; exact upd_same
    · exact fun z => (List.mem_append.mp z).elim p8 fun w => hDa (List.mem_singleton.mp w)
  · rintro H3 ⟨p1, p2, p3, ws, as, p4, p5, p6, p7, p8⟩
    rw [List.take_length] at p6
    exact q Dl ws as _ (e1.free p1) (e1.trans p2) p4 p5 p6 ⟨p7.nd, fun a ha => e1.free (p7.new a ha), p7.nil⟩ p8
end
end Pf

set_option Elab.async false
set_option linter.all false
set_option maxRecDepth 100000
set_option maxHeartbeats 4000000
namespace Pf
open PySem PySem.Spec PyProof.Rows L2
section
variable {X : Cx} {CX : CXT} {k i : Nat} {f : Addr} {fd : FuncData} {ps : List Str} {sp : Sp} {dvs : List V} {ds : List Value} {E : L2.St → XK} {x : Str} {p pos : Pos} {e : Expr} {es : List Expr} {t : TA}
def tCallLSD (i : Nat) (f : Addr) (sp : Sp) (dvs : List V) (E : L2.St → XK) (t : TA) : TE := fun σ H Q => σ[i]? = some (some (.ref f)) ∧ t σ H fun vs H1 => sp (vs ++ dvs) H1 Q (E σ)
theorem pe_callLSD (F : FnOk X.prog X.w X.K X.mg X.base CX k f fd ps sp) (hr : Room k X.A) (hN : X.N[i]? = some x) (hv : Vis X.env.scope x) (hk : PySem.W.keepIn X.K (.ref f) = true) (hb : Binds X.K fd ps ds) (hd : Vals dvs ds) (hx : ∀ σ, PassesAt CX X σ (E σ)) (ha : PA X (e :: es) t)
    (hdb : (x == ("__debug__" : Str)) = false := by decide) (hcd : (x == ("__classdict__" : Str)) = false := by decide)
    (he : starEach (e :: es) X.env = (false, eval e X.env) :: starEach es X.env := by rfl) (hpl : (backTo pos (starEach es X.env)).any (·.1) = false := by rfl) : PE X (.Call (.Name x p) (e :: es) [] pos) (tCallLSD i f sp dvs E t) := by
  refine ⟨fun pins s σ H Q I h => ?_⟩
  obtain ⟨hs, ht⟩ := h
  refine wpAny_Call_Name_kw (thn ((pe_var (pos := p) hN hv hdb hcd).run pins s σ H (fun v H1 => v = .ref f ∧ H1 = H) I ⟨.ref f, hs, rfl, rfl⟩) fun u s1 ⟨v, H1, I1, r1, q1⟩ => ?_)
  obtain ⟨rfl, rfl⟩ := q1
  cases r1
  refine PySem.W.callWith_K (h₀ := X.base) I.ok.mod.kin hk (thn (ha.run pos pins s1 σ _ _ I1 ht) fun us s2 ⟨vs, H2, I2, r, q⟩ => ⟨I2.kIn, ?_⟩) he hpl
  exact run_fnSD F hr hb hd (hx σ) I2 r q
end
/-- isinstance(e, (C1, ..)), e the exception that the suite holds -/
def rIsET (K : PySem.W.Frag) (D a : Addr) : List V → Hp → VK → Prop := fun xs H Q => ∃ (tp : Addr) (cs : List Addr) (b : Bool), xs = [.ref a, .ref tp] ∧ H tp = some (.tup (cs.map V.ref)) ∧ PySem.W.kitAny K (.ref D) (cs.map Value.ref) = some b ∧ Q (.bl b) H
theorem call_isET {X : Cx} {a D : Addr} {oe : Obj} {pn : List (Addr × Obj)} (C : ExcC X.K D) (hz : Zc (.ref D) none oe) (hf : ∃ vs, oe.data = .fields vs) : CallR (X.suite a ((a, oe) :: pn)) (.builtin "isinstance") (rIsET X.K D a) := by
  intro pins s σ H xs us Q I r h
  obtain ⟨tp, cs, b, rfl, hT, e, q⟩ := h
  obtain ⟨u1, u2, rfl, r1, r2⟩ := vals2 r
  cases r1
  cases (show u2 = Value.ref tp from r2)
  obtain ⟨hget, _⟩ := I.pin (a, oe) (List.mem_append.mpr (.inl List.mem_cons_self))
  obtain ⟨vs, hv⟩ := hf
  have J : PySem.W.InstAt s.heap a oe D none := by
    obtain ⟨oc, od, oda, osl⟩ := oe
    obtain ⟨h1, h2⟩ := hz
    dsimp only at h1 h2 hv
    subst h1 h2 hv
    exact ⟨hget, rfl, rfl, trivial⟩
  obtain ⟨_, its, rv, o, h1, h2, n, h3⟩ := (show ObjOk X.prog X.w H s.heap tp (.tup (cs.map V.ref)) from I.hok tp _ hT)
  have e3 : its = cs.map Value.ref := by
    have : ∀ {cs : List Addr} {its : List Value}, Vals (cs.map V.ref) its → its = cs.map Value.ref := by
      intro cs
      induction cs with
      | nil => intro its h; cases h; rfl
      | cons c cs ih => intro its h; cases h with
        | cons g t => rw [ih t, show _ = Value.ref c from g]; rfl
    exact this rv
  subst e3
  obtain ⟨oc, od, dt, sl⟩ := o
  simp only at h2 h3
  subst h2 h3
  exact PySem.W.kia_tup (PySem.W.handS_kitx_exc C.hg C.hk C.hs C.hd C.ha C.hn C.ht C.hm) I.kIn J h1 e (fun z => nomatch z) fun tk => ⟨.bl b, H, I.kept (t' := tk) fun _ _ z => z, rfl, q⟩
/-- what is known of TooMany and the other names -/
structure Errs (K : PySem.W.Frag) (mg : Str → Option Value) (C : Addr) : Prop where
  ET : Exc0 K mg "TooMany" C
  p : ∃ Cp, mg "PassError" = some (.ref Cp) ∧ PySem.W.exmOne K (.ref C) (.ref Cp) = some true
  no : ∃ c1 c2 c3 c4 c5 c6, mg "NoCrowd" = some (.ref c1) ∧ mg "NoLine" = some (.ref c2) ∧ mg "NoMeeting" = some (.ref c3) ∧ mg "NoPaper" = some (.ref c4) ∧ mg "NoRule" = some (.ref c5) ∧ mg "NoText" = some (.ref c6) ∧
    PySem.W.kitAny K (.ref C) [.ref c1, .ref c2, .ref c3, .ref c4, .ref c5, .ref c6] = some false
  ve : PySem.W.kitOne K (.ref C) (.type "ValueError") = some true
  ex : ExcC K C
end Pf

set_option Elab.async false
set_option linter.all false
set_option maxRecDepth 100000
set_option maxHeartbeats 4000000
namespace Pg
open PySem PySem.Spec PyProof.Rows L2 Pf
def top (i : Nat) : Stmt := PySem.Challenge.pw_passersby_k47_a_thousand_at_most.main.body.getD i (.Pass ⟨0, 0, 0, 0⟩)
abbrev s_is_whole : Stmt := top 10
theorem sc_is_whole : FnScope ["thing"] ["thing"] (defScope s_is_whole) := ⟨rfl, rfl, rfl, by decide +kernel, rfl, by decide +kernel, by decide +kernel⟩
abbrev s_begun : Stmt := top 12
theorem sc_begun : FnScope ["rule", "counts", "found", "sort", "many", "room"] ["rule", "counts"] (defScope s_begun) := ⟨rfl, rfl, rfl, by decide +kernel, rfl, by decide +kernel, by decide +kernel⟩
abbrev s_may_be : Stmt := top 13
theorem sc_may_be : FnScope ["crowd", "meeting"] ["crowd", "meeting"] (defScope s_may_be) := ⟨rfl, rfl, rfl, by decide +kernel, rfl, by decide +kernel, by decide +kernel⟩
abbrev s_can : Stmt := top 14
theorem sc_can : FnScope ["rule", "crowd", "number", "meeting"] ["rule", "crowd"] (defScope s_can) := ⟨rfl, rfl, rfl, by decide +kernel, rfl, by decide +kernel, by decide +kernel⟩
abbrev s_crowd_behind : Stmt := top 15
theorem sc_crowd_behind : FnScope ["crowd", "meeting", "found", "room"] ["crowd", "meeting"] (defScope s_crowd_behind) := ⟨rfl, rfl, rfl, by decide +kernel, rfl, by decide +kernel, by decide +kernel⟩
abbrev s_is_next : Stmt := top 16
theorem sc_is_next : FnScope ["rule", "crowd", "number"] ["rule", "crowd", "number"] (defScope s_is_next) := ⟨rfl, rfl, rfl, by decide +kernel, rfl, by decide +kernel, by decide +kernel⟩
abbrev s_met : Stmt := top 17
theorem sc_met : FnScope ["rule", "crowd", "number"] ["rule", "crowd", "number"] (defScope s_met) := ⟨rfl, rfl, rfl, by decide +kernel, rfl, by decide +kernel, by decide +kernel⟩
abbrev s_said : Stmt := top 18
theorem sc_said : FnScope ["rule", "crowd", "words", "room", "many"] ["rule", "crowd"] (defScope s_said) := ⟨rfl, rfl, rfl, by decide +kernel, rfl, by decide +kernel, by decide +kernel⟩
abbrev s_graph_of : Stmt := top 20
theorem sc_graph_of : FnScope ["rule", "crowd", "limit", "found", "line", "seen", "here", "number", "behind"] ["rule", "crowd", "limit"] (defScope s_graph_of) := ⟨rfl, rfl, rfl, by decide +kernel, rfl, by decide +kernel, by decide +kernel⟩
abbrev s_come : Stmt := top 21
theorem sc_come : FnScope ["rule", "crowd", "limit"] ["rule", "crowd", "limit"] (defScope s_come) := ⟨rfl, rfl, rfl, by decide +kernel, rfl, by decide +kernel, by decide +kernel⟩
abbrev s_row_to : Stmt := top 22
theorem sc_row_to : FnScope ["graph", "crowd", "goals", "steps", "line", "at", "number", "behind", "numbers", "here"] ["graph", "crowd", "goals"] (defScope s_row_to) := ⟨rfl, rfl, rfl, by decide +kernel, rfl, by decide +kernel, by decide +kernel⟩
abbrev s_way_to : Stmt := top 23
theorem sc_way_to : FnScope ["rule", "crowd", "goal", "limit", "graph"] ["rule", "crowd", "goal", "limit"] (defScope s_way_to) := ⟨rfl, rfl, rfl, by decide +kernel, rfl, by decide +kernel, by decide +kernel⟩
abbrev s_ranks_to : Stmt := top 24
theorem sc_ranks_to : FnScope ["graph", "goals", "ahead", "crowd", "number", "behind", "found", "line", "at", "goal"] ["graph", "goals"] (defScope s_ranks_to) := ⟨rfl, rfl, rfl, by decide +kernel, rfl, by decide +kernel, by decide +kernel⟩
abbrev s_hands_of : Stmt := top 26
theorem sc_hands_of : FnScope ["some", "counts", "sort"] ["some", "counts"] (defScope s_hands_of) := ⟨rfl, rfl, rfl, by decide +kernel, rfl, by decide +kernel, by decide +kernel⟩
abbrev s_holds : Stmt := top 27
theorem sc_holds : FnScope ["question", "counts", "word"] ["question", "counts"] (defScope s_holds) := ⟨rfl, rfl, rfl, by decide +kernel, rfl, by decide +kernel, by decide +kernel⟩
abbrev s_settled : Stmt := top 29
theorem sc_settled : FnScope ["rule", "crowd", "limit", "words", "word", "truth", "one"] ["rule", "crowd", "limit"] (defScope s_settled) := ⟨rfl, rfl, rfl, by decide +kernel, rfl, by decide +kernel, by decide +kernel⟩
abbrev s_truth_word : Stmt := top 30
theorem sc_truth_word : FnScope ["question", "counts"] ["question", "counts"] (defScope s_truth_word) := ⟨rfl, rfl, rfl, by decide +kernel, rfl, by decide +kernel, by decide +kernel⟩
abbrev s_gone_through : Stmt := top 31
theorem sc_gone_through : FnScope ["rule", "question", "counts", "limit", "graph", "word", "to_wrong", "to_settled", "crowd"] ["rule", "question", "counts", "limit"] (defScope s_gone_through) := ⟨rfl, rfl, rfl, by decide +kernel, rfl, by decide +kernel, by decide +kernel⟩
abbrev s_answers : Stmt := top 32
theorem sc_answers : FnScope ["rule", "question", "counts", "limit", "graph", "to_wrong", "to_settled"] ["rule", "question", "counts", "limit"] (defScope s_answers) := ⟨rfl, rfl, rfl, by decide +kernel, rfl, by decide +kernel, by decide +kernel⟩
abbrev s_err_at : Stmt := top 34
theorem sc_err_at : FnScope ["rule", "question", "counts", "limit", "graph", "to_wrong", "to_settled", "lost", "begin", "numbers", "crowd", "ranks", "one"] ["rule", "question", "counts", "limit"] (defScope s_err_at) := ⟨rfl, rfl, rfl, by decide +kernel, rfl, by decide +kernel, by decide +kernel⟩
abbrev s_beginnings : Stmt := top 35
theorem sc_beginnings : FnScope ["sorts", "hands", "rows", "sort", "longer", "row", "many"] ["sorts", "hands"] (defScope s_beginnings) := ⟨rfl, rfl, rfl, by decide +kernel, rfl, by decide +kernel, by decide +kernel⟩
abbrev s_err_of : Stmt := top 36
theorem sc_err_of : FnScope ["rule", "question", "most", "limit", "hands", "counts", "paper"] ["rule", "question", "most", "limit"] (defScope s_err_of) := ⟨rfl, rfl, rfl, by decide +kernel, rfl, by decide +kernel, by decide +kernel⟩
abbrev s_last_left : Stmt := top 38
theorem sc_last_left : FnScope ["graph", "crowd", "found", "seen", "line", "here", "at", "behind"] ["graph", "crowd"] (defScope s_last_left) := ⟨rfl, rfl, rfl, by decide +kernel, rfl, by decide +kernel, by decide +kernel⟩
abbrev s_rounds_of : Stmt := top 39
theorem sc_rounds_of : FnScope ["graph", "crowd", "ahead", "one", "number", "behind", "found", "seen", "line", "at", "other"] ["graph", "crowd"] (defScope s_rounds_of) := ⟨rfl, rfl, rfl, by decide +kernel, rfl, by decide +kernel, by decide +kernel⟩
abbrev s_is_shut : Stmt := top 40
theorem sc_is_shut : FnScope ["graph", "crowds", "inside", "one", "number", "behind"] ["graph", "crowds"] (defScope s_is_shut) := ⟨rfl, rfl, rfl, by decide +kernel, rfl, by decide +kernel, by decide +kernel⟩
abbrev s_ends_of : Stmt := top 41
theorem sc_ends_of : FnScope ["rule", "crowd", "limit", "graph", "one"] ["rule", "crowd", "limit"] (defScope s_ends_of) := ⟨rfl, rfl, rfl, by decide +kernel, rfl, by decide +kernel, by decide +kernel⟩
abbrev s_ring_to : Stmt := top 42
theorem sc_ring_to : FnScope ["rule", "crowd", "end", "limit", "graph", "left", "way", "first", "ring", "here", "numbers", "one"] ["rule", "crowd", "end", "limit"] (defScope s_ring_to) := ⟨rfl, rfl, rfl, by decide +kernel, rfl, by decide +kernel, by decide +kernel⟩
abbrev s__law_feed : Stmt := top 44
theorem sc__law_feed : FnScope ["_law_script", "_law_at", "_law_cell"] ["_law_script", "_law_at"] (defScope s__law_feed) := ⟨rfl, rfl, rfl, by decide +kernel, rfl, by decide +kernel, by decide +kernel⟩
abbrev s__law_draw : Stmt := top 45
theorem sc__law_draw : FnScope ["_law_feed_here", "_law_many", "_law_turn", "_law_left", "_law_here", "_law_mixed"] ["_law_feed_here", "_law_many"] (defScope s__law_draw) := ⟨rfl, rfl, rfl, by decide +kernel, rfl, by decide +kernel, by decide +kernel⟩
abbrev s__law_too_many : Stmt := top 46
theorem sc__law_too_many : FnScope ["_law_ask_here", "_law_things", "_law_found", "e", "_law_strange"] ["_law_ask_here", "_law_things"] (defScope s__law_too_many) := ⟨rfl, rfl, rfl, by decide +kernel, rfl, by decide +kernel, by decide +kernel⟩
abbrev s__law_round : Stmt := top 47
theorem sc__law_round : FnScope ["_law_order", "_law_sorts", "_law_first", "_law_second", "_law_third", "_law_meets", "_law_one", "_law_other", "_law_to", "_law_pair", "_law_says", "_law_room"] ["_law_order", "_law_sorts"] (defScope s__law_round) := ⟨rfl, rfl, rfl, by decide +kernel, rfl, by decide +kernel, by decide +kernel⟩
abbrev s__law_end : Stmt := top 48
theorem sc__law_end : FnScope ["_law_rule", "_law_crowd", "_law_first", "_law_rooms", "_law_found", "_law_many", "_law_one", "_law_room"] ["_law_rule", "_law_crowd"] (defScope s__law_end) := ⟨rfl, rfl, rfl, by decide +kernel, rfl, by decide +kernel, by decide +kernel⟩
abbrev s__law_wide : Stmt := top 49
theorem sc__law_wide : FnScope ["_law_meets", "_law_k"] [] (defScope s__law_wide) := ⟨rfl, rfl, rfl, by decide +kernel, rfl, by decide +kernel, by decide +kernel⟩
abbrev s__law_ask : Stmt := top 50
theorem sc__law_ask : FnScope ["_law_things", "_law_deed", "_law_rule", "_law_crowd", "_law_limit", "_law_question", "_law_counts"] ["_law_things"] (defScope s__law_ask) := ⟨rfl, rfl, rfl, by decide +kernel, rfl, by decide +kernel, by decide +kernel⟩
abbrev s__law_ask_plain : Stmt := top 51
theorem sc__law_ask_plain : FnScope ["_law_deed", "_law_rule", "_law_crowd", "_law_question"] ["_law_deed", "_law_rule", "_law_crowd", "_law_question"] (defScope s__law_ask_plain) := ⟨rfl, rfl, rfl, by decide +kernel, rfl, by decide +kernel, by decide +kernel⟩
abbrev s__law_told : Stmt := top 52
theorem sc__law_told : FnScope ["_law_things", "_law_found"] ["_law_things"] (defScope s__law_told) := ⟨rfl, rfl, rfl, by decide +kernel, rfl, by decide +kernel, by decide +kernel⟩
abbrev s__law_ask_first : Stmt := top 53
theorem sc__law_ask_first : FnScope ["_law_things", "_law_rule", "_law_most", "_law_limit", "_law_question"] ["_law_things"] (defScope s__law_ask_first) := ⟨rfl, rfl, rfl, by decide +kernel, rfl, by decide +kernel, by decide +kernel⟩
abbrev s_law : Stmt := top 54
theorem sc_law : FnScope ["_law_script", "_law_feed_here", "_law_order", "_law_rule", "_law_deed", "_law_wide_here", "_law_hands", "_law_crowd", "_law_many", "_law_one", "_law_limit", "_law_sure", "_law_room"] ["_law_script"] (defScope s_law) := ⟨rfl, rfl, rfl, by decide +kernel, rfl, by decide +kernel, by decide +kernel⟩
end Pg

set_option Elab.async false
set_option linter.all false
set_option maxRecDepth 100000
set_option maxHeartbeats 4000000
namespace Pg
open PySem PySem.Spec PyProof.Rows L2 Pf
section
variable {P : Program} {w : World} {K : PySem.W.Frag} {mg : Str → Option Value} {base : Heap}
def mayBe (c : List Int) : List Int → Bool
  | [a, b, _, _] => if a = b then decide (2 ≤ c.getD a.toNat 0) else decide (1 ≤ c.getD a.toNat 0) && decide (1 ≤ c.getD b.toNat 0)
  | _ => false
/-- a meeting of a rule of n rooms -/
def Mw (n : Nat) (m : List Int) : Prop := ∃ a b c d : Nat, m = [(a : Int), (b : Int), (c : Int), (d : Int)] ∧ a < n ∧ b < n ∧ c < n ∧ d < n
theorem at_ok {α : Type} {xs : List α} {n : Nat} {d : α} (h : n < xs.length) : atI xs (n : Int) = some (xs.getD n d) := by
  have : xs[n]? = some (xs.getD n d) := by
    rw [List.getElem?_eq_getElem h, List.getD_eq_getElem?_getD, List.getElem?_eq_getElem h]; rfl
  exact atI_nat this
theorem ok_may_be (d : Here K mg s_may_be "may_be" []) : Cl P w K mg base CX0 1 "may_be" ["crowd", "meeting"] [] (Sp2 (aT aI) (aT aI) (fun c m => Mw c.length m) aB mayBe) := by
  refine d.cl sc_may_be (fun _ _ _ _ _ _ us hl => match us, hl with | [_, _], _ => rfl) len2 (fun f cdv A outer s H vs Q E hr h => ?_)
  obtain ⟨v, u, c, m, rfl, hc, hm, ⟨a1, b1, c1, d1, rfl, h1, h2, h3, h4⟩, k⟩ := h
  have hu := hu_of hr
  refine ⟨_, (pss_cons (ps_if (pt_cmpR op_eq (pe_ix ix_tup (pv 1) pe_int (fun _ _ => rfl)) (pe_ix ix_tup (pv 1) pe_int (fun _ _ => rfl)) (nomark _)) (pss_one (ps_ret (pe_cmpR op_ge (pe_ix ix_tup (pv 0) (pe_ix ix_tup (pv 1) pe_int (fun _ _ => rfl)) (fun _ _ => rfl)) pe_int (nomark _)))) pss_nil)
    (pss_one (ps_ret (pe_and (pe_cmpR op_ge (pe_ix ix_tup (pv 0) (pe_ix ix_tup (pv 1) pe_int (fun _ _ => rfl)) (fun _ _ => rfl)) pe_int (nomark _)) (pe_one (pe_cmpR op_ge (pe_ix ix_tup (pv 0) (pe_ix ix_tup (pv 1) pe_int (fun _ _ => rfl)) (fun _ _ => rfl)) pe_int (nomark _))))))), ?_⟩
  have em0 : ∀ {σ' : L2.St} {H' : Hp}, σ'[1]? = some (some u) → Same H H' → Ed (tOp (rIxT K) (tVar 1) (tC (.int 0))) σ' H' aI (a1 : Int) := fun hs e => ed_ixT (ed_var hs (Mo.mo e hm)) ed_i rfl
  have em1 : ∀ {σ' : L2.St} {H' : Hp}, σ'[1]? = some (some u) → Same H H' → Ed (tOp (rIxT K) (tVar 1) (tC (.int 1))) σ' H' aI (b1 : Int) := fun hs e => ed_ixT (ed_var hs (Mo.mo e hm)) ed_i rfl
  refine s_if (et_test (ed_eqI (em0 rfl (Same.refl _)) (em1 rfl (Same.refl _)))) (fun hb H1 e => ?_) (fun hb H1 e => ?_)
  · refine s_ret (ed_ge (ed_ixT (ed_var rfl (Mo.mo e hc)) (em0 rfl e) (at_ok (d := 0) h1)) ed_i) fun v H2 e2 hv => k v H2 (e.trans e2) ?_
    have e3 : mayBe c [(a1 : Int), (b1 : Int), (c1 : Int), (d1 : Int)] = decide (2 ≤ c.getD a1 0) := if_pos (of_decide_eq_true hb)
    rw [e3]; exact hv
  · refine s_ret (ed_andV (ed_ge (ed_ixT (ed_var rfl (Mo.mo e hc)) (em0 rfl e) (at_ok (d := 0) h1)) ed_i) fun _ => ed_ge (ed_ixT (ed_var rfl (Mo.mo e hc)) (em1 rfl e) (at_ok (d := 0) h2)) ed_i) fun v H2 e2 hv => k v H2 (e.trans e2) ?_
    have e3 : mayBe c [(a1 : Int), (b1 : Int), (c1 : Int), (d1 : Int)] = (decide (1 ≤ c.getD a1 0) && decide (1 ≤ c.getD b1 0)) := if_neg (of_decide_eq_false hb)
    rw [e3]; exact hv
/-- isinstance(thing, int) and (not isinstance(thing, bool)), of an int -/
theorem ok_is_whole (B : Bt mg) (d : Here K mg s_is_whole "is_whole" []) : Cl P w K mg base CX0 1 "is_whole" ["thing"] [] (Sp1 aI (fun _ => True) aB (fun _ => true)) := by
  refine d.cl sc_is_whole (fun _ _ _ _ _ _ us hl => match us, hl with | [_], _ => rfl) len1 (fun f cdv A outer s H vs Q E hr h => ?_)
  obtain ⟨v, x, rfl, hx, _, k⟩ := h
  cases hx
  have hu := hu_of hr
  refine ⟨_, (pss_one (ps_ret (pe_and (pe_callB call_isi (by rfl) B.isinstance (by decide +kernel) (pa_cons (pv 0) (pa_cons (pe_bltn (v := .ty "int") (by rfl) B.int (by decide +kernel) rfl) pa_nil))) (pe_one (pe_not (pe_callB call_isi (by rfl) B.isinstance (by decide +kernel) (pa_cons (pv 0) (pa_cons (pe_bltn (v := .ty "bool") (by rfl) B.bool (by decide +kernel) rfl) pa_nil)))))))), ?_⟩
  refine ⟨_, rfl, .int x, .ty "int", .type "int", .type "int", true, rfl, .ty _, .base (.int _), kit_ty (by decide +kernel), true, rfl, ?_⟩
  refine iteT ?_
  refine ⟨_, rfl, .int x, .ty "bool", .type "int", .type "bool", false, rfl, .ty _, .base (.int _), kit_ty (by decide +kernel), false, rfl, ?_⟩
  exact k _ H (Same.refl _) rfl
/-- a rule -/
structure Rule where
  rooms : Int
  starts : List Int
  meets : List (List Int)
  says : List Bool
def aR : Rl Rule := fun H v ρ => ∃ a v0 v1 v2 v3, v = .ref a ∧ H a = some (.tup [v0, v1, v2, v3]) ∧ aI H v0 ρ.rooms ∧ aT aI H v1 ρ.starts ∧ aT (aT aI) H v2 ρ.meets ∧ aT aB H v3 ρ.says
instance : Im aR := ⟨fun e ⟨a, v0, v1, v2, v3, h1, h2, h3, h4, h5, h6⟩ => ⟨a, v0, v1, v2, v3, h1, e _ _ h2, h3, Im.im e h4, Im.im e h5, Im.im e h6⟩⟩
instance : Mo aR := ⟨fun e h => Im.im e.tup h⟩
section
variable {σ : L2.St} {H : Hp} {te : TE} {ρ : Rule}
theorem ed_R0 (h : Ed te σ H aR ρ) : Ed (tOp (rIxT K) te (tC (.int 0))) σ H aI ρ.rooms := fun H1 e Q q =>
  h H1 e _ fun v H2 e2 ⟨a, v0, v1, v2, v3, h1, h2, h3, h4, h5, h6⟩ => ⟨a, _, 0, v0, h1, rfl, SqT.of h2, rfl, q v0 H2 e2 h3⟩
theorem ed_R1 (h : Ed te σ H aR ρ) : Ed (tOp (rIxT K) te (tC (.int 1))) σ H (aT aI) ρ.starts := fun H1 e Q q =>
  h H1 e _ fun v H2 e2 ⟨a, v0, v1, v2, v3, h1, h2, h3, h4, h5, h6⟩ => ⟨a, _, 1, v1, h1, rfl, SqT.of h2, rfl, q v1 H2 e2 h4⟩
theorem ed_R2 (h : Ed te σ H aR ρ) : Ed (tOp (rIxT K) te (tC (.int 2))) σ H (aT (aT aI)) ρ.meets := fun H1 e Q q =>
  h H1 e _ fun v H2 e2 ⟨a, v0, v1, v2, v3, h1, h2, h3, h4, h5, h6⟩ => ⟨a, _, 2, v2, h1, rfl, SqT.of h2, rfl, q v2 H2 e2 h5⟩
theorem ed_R3 (h : Ed te σ H aR ρ) : Ed (tOp (rIxT K) te (tC (.int 3))) σ H (aT aB) ρ.says := fun H1 e Q q =>
  h H1 e _ fun v H2 e2 ⟨a, v0, v1, v2, v3, h1, h2, h3, h4, h5, h6⟩ => ⟨a, _, 3, v3, h1, rfl, SqT.of h2, rfl, q v3 H2 e2 h6⟩
end
/-- a rule with a crowd of its -/
structure Fits (ρ : Rule) (c : List Int) : Prop where
  len : c.length = ρ.says.length
  mw : ∀ m ∈ ρ.meets, Mw c.length m
  few : ρ.meets.length ≤ 90000
  nat : c.length ≤ 90000
def canB (ρ : Rule) (c : List Int) : List Int := ((num 0 ρ.meets).filter fun p => mayBe c p.2).map (·.1)
theorem num_mem {α : Type} {xs : List α} {k : Int} {p : Int × α} (h : p ∈ num k xs) : p.2 ∈ xs := by
  obtain ⟨i, hi, e⟩ := List.mem_iff_getElem.mp h
  have := num_get (i := i) (by rw [List.getElem?_eq_getElem hi, e])
  exact List.mem_of_getElem? this.2
abbrev SpMay : Sp := Sp2 (aT aI) (aT aI) (fun c m => Mw c.length m) aB mayBe
abbrev SpCan : Sp := Sp2 aR (aT aI) Fits (aL aI) canB
theorem ok_can (B : Bt mg) (c_may_be : Cl P w K mg base CX0 1 "may_be" ["crowd", "meeting"] [] SpMay) (d : Here K mg s_can "can" []) : Cl P w K mg base CX0 2 "can" ["rule", "crowd"] [] SpCan := by
  refine d.cl sc_can (fun _ _ _ _ _ _ us hl => match us, hl with | [_, _], _ => rfl) len2 (fun f cdv A outer s H vs Q E hr h => ?_)
  obtain ⟨v, u, ρ, c, rfl, hρ, hc, F, k⟩ := h
  have hu := hu_of hr
  refine ⟨_, (pss_one (ps_ret (pe_lc (own := [("number", 2), ("meeting", 3)]) (g := (gTup K 2 (gCons (gName 2) (gCons (gName 3) gNil)))) (tt := (tB (tCall _ _ _ (tCons (tVar 1) (tCons (tVar 3) tNil))))) (te := (tVar 2)) rfl sc_can.nd (pi_enumT rfl B.enumerate (pa_cons (pe_ix ix_tup (pv 0) pe_int (fun _ _ => rfl)) pa_nil)) (blkOk_by (own := [("number", 2), ("meeting", 3)]) (N := ["rule", "crowd", "number", "meeting"]) (sc := defScope s_can) (by decide +kernel)) (fun _ _ _ _ _ => by exact (pg_tup rfl (pgs_cons (pg_name (i := 2) sc_can.nd rfl (by first | exact Or.inl rfl | exact Or.inr rfl)) (pgs_cons (pg_name (i := 3) sc_can.nd rfl (by first | exact Or.inl rfl | exact Or.inr rfl)) pgs_nil)))) (fun _ _ _ _ _ => by exact (pts_one (pt_val (pe_cl c_may_be (hr.mono (by decide)) (by rfl) pass0 (pa_cons (pv 1) (pa_cons (pv 3) pa_nil)))))) (fun _ _ _ _ _ => by exact (pv 2))))), ?_⟩
  refine s_ret (EdL.ed <| el_lc2 (t := fun p => mayBe c p.2) (f := (·.1)) (src_enumT (ed_R2 (ed_var rfl hρ))) (by rw [num_length]; exact F.few) (fun _ _ => rfl) (fun x v w H1 e hm h1 h2 => ?_) (fun x v w H1 e hm h1 h2 _ => ?_)) fun v H1 e hv => k v H1 e hv
  · exact et_B (ed_call2 (ed_var rfl (Mo.mo e hc)) (ed_var rfl h2) (F.mw _ (num_mem hm)))
  · exact ed_var rfl h1
end
end Pg

set_option Elab.async false
set_option linter.all false
set_option maxRecDepth 100000
set_option maxHeartbeats 4000000
namespace Pg
open PySem PySem.Spec PyProof.Rows L2 Pf
/-- one hand less, one more, in the room i -/
def dec (c : List Int) (i : Int) : List Int := c.set i.toNat (c.getD i.toNat 0 - 1)
def inc (c : List Int) (i : Int) : List Int := c.set i.toNat (c.getD i.toNat 0 + 1)
theorem dec_length (c : List Int) (i : Int) : (dec c i).length = c.length := by unfold dec; simp
theorem inc_length (c : List Int) (i : Int) : (inc c i).length = c.length := by unfold inc; simp
def behind (c : List Int) : List Int → List Int
  | [a, b, x, y] => inc (inc (dec (dec c a) b) x) y
  | _ => c
theorem foldl_take {α β : Type} {f : β → α → β} {b : β} {xs : List α} {i : Nat} {x : α} (h : xs[i]? = some x) : (xs.take (i + 1)).foldl f b = f ((xs.take i).foldl f b) x := by
  rw [List.take_succ, h]
  show List.foldl f b (xs.take i ++ [x]) = _
  rw [List.foldl_append]; rfl
theorem foldl_len {f : List Int → Int → List Int} (hf : ∀ c i, (f c i).length = c.length) : ∀ (xs : List Int) (c : List Int), (xs.foldl f c).length = c.length
  | [], _ => rfl
  | x :: r, c => by rw [List.foldl_cons, foldl_len hf r, hf]
theorem map_set_int (c : List Int) (n : Nat) (x : Int) : (c.map V.int).set n (V.int x) = (c.set n x).map V.int := by
  induction c generalizing n with
  | nil => rfl
  | cons y ys ih => cases n with
    | zero => rfl
    | succ n => simp only [List.map_cons, List.set_cons_succ]; rw [ih]
section
variable {P : Program} {w : World} {K : PySem.W.Frag} {mg : Str → Option Value} {base : Heap}
abbrev SpBeh : Sp := Sp2 (aT aI) (aT aI) (fun c m => Mw c.length m ∧ c.length ≤ 90000) (aT aI) behind
theorem aL_int {H : Hp} {l : Addr} {c : List Int} (h : H l = some (.lst (c.map V.int))) : aL aI H (.ref l) c := ⟨l, _, rfl, h, int_paired H c⟩
/-- found[room] = found[room] +- 1, room by room -/
theorem walk_rooms {K : PySem.W.Frag} {H0 : Hp} {v u : V} {l : Addr} (g : Int → Int) (f : List Int → Int → List Int) (hf : ∀ c i, f c i = c.set i.toNat (g (c.getD i.toNat 0))) {D : Ends} {xs : List Int} {c : List Int} {rv : Option V} {H : Hp} {te : TE} {tv : TE}
    (h : Ed te [some v, some u, some (.ref l), rv] H (aT aI) xs) (hH : Same H0 H) (hl0 : H0 l = none) (hl : H l = some (.lst (c.map V.int))) (hx : ∀ x ∈ xs, ∃ n : Nat, x = (n : Int) ∧ n < c.length)
    (hv : ∀ (σ : L2.St) H' x, Ed (tOp (rIxL K) (tVar 2) (tVar 3)) σ H' aI x → Ed tv σ H' aI (g x))
    (hd : ∀ rv' H', Same H0 H' → H' l = some (.lst ((xs.foldl f c).map V.int)) → D.nx [some v, some u, some (.ref l), rv'] H') :
    tFor (iTup K te) (gName 3) (tAsg tv (gSub (tVar 2) (tVar 3) rSetL)) D [some v, some u, some (.ref l), rv] H := by
  have hflen : ∀ c i, (f c i).length = c.length := fun c i => by rw [hf]; simp
  refine s_forT h (fun i σ' H' => ∃ rv, σ' = [some v, some u, some (.ref l), rv] ∧ Same H0 H' ∧ H' l = some (.lst (((xs.take i).foldl f c).map V.int))) (fun H1 e => ⟨rv, rfl, hH.trans e, e _ _ hl⟩) ?_ ?_
  · rintro H1 i x vx σ' H' e hxi ⟨rv, rfl, s1, h1⟩ hts rfl
    obtain ⟨n, rfl, hn⟩ := hx x (List.mem_of_getElem? hxi)
    have hlen : ((xs.take i).foldl f c).length = c.length := foldl_len hflen _ _
    have ei : ∀ {H'' : Hp}, Same H' H'' → Ed (tOp (rIxL K) (tVar 2) (tVar 3)) [some v, some u, some (.ref l), some (.int (n : Int))] H'' aI (((xs.take i).foldl f c).getD n 0) := fun e =>
      ed_ixL (ed_var rfl (aL_int (e _ _ h1))) (ed_var rfl rfl) (at_ok (by rw [hlen]; exact hn))
    refine s_setL (n := n) h1 (hv _ _ _ (ei (Same.refl _))) (ed_ref rfl) (ed_var (r := aI) rfl rfl) (ixN_nat (by rw [List.length_map, hlen]; exact hn)) fun w H2 e2 hw => ?_
    cases hw
    refine ⟨⟨_, rfl, Same.mut (s1.trans e2) hl0, ?_⟩, hts.trans ((TSm.of e2).trans (TSm.upL (e2 _ _ h1)))⟩
    rw [upd_same, map_set_int, foldl_take hxi, hf]; rfl
  · rintro σ' H' ⟨rv', rfl, s1, h1⟩
    rw [List.take_length] at h1
    exact hd rv' H' s1 h1
theorem ok_crowd_behind (B : Bt mg) (d : Here K mg s_crowd_behind "crowd_behind" []) : Cl P w K mg base CX0 1 "crowd_behind" ["crowd", "meeting"] [] SpBeh := by
  refine d.cl sc_crowd_behind (fun _ _ _ _ _ _ us hl => match us, hl with | [_, _], _ => rfl) len2 (fun f cdv A outer s H vs Q E hr h => ?_)
  obtain ⟨v, u, c, m, rfl, hc, hm, ⟨⟨a1, b1, c1, d1, rfl, h1, h2, h3, h4⟩, hz⟩, k⟩ := h
  have hu := hu_of hr
  refine ⟨_, (pss_cons (ps_set (i := 2) sc_crowd_behind.nd rfl (by first | exact Or.inl rfl | exact Or.inr rfl) (pe_callTy call_list_of (by rfl) B.list (by decide +kernel) (pa_cons (pv 0) pa_nil)))
    (pss_cons (ps_for PassesOwn.never rfl (pi_tup (pe_slice sl_tupA (pv 1) po_none (po_some pe_int))) (pg_name (i := 3) sc_crowd_behind.nd rfl (by first | exact Or.inl rfl | exact Or.inr rfl))
    (pss_one (ps_asg (pe_op op_sub (pe_ix ix_list (pv 2) (pv 3) (fun _ _ => rfl)) pe_int) (pg_sub (pv 2) (pv 3) set_list))))
    (pss_cons (ps_for PassesOwn.never rfl (pi_tup (pe_slice sl_tupA (pv 1) (po_some pe_int) po_none)) (pg_name (i := 3) sc_crowd_behind.nd rfl (by first | exact Or.inl rfl | exact Or.inr rfl))
    (pss_one (ps_asg (pe_op op_add (pe_ix ix_list (pv 2) (pv 3) (fun _ _ => rfl)) pe_int) (pg_sub (pv 2) (pv 3) set_list))))
    (pss_one (ps_ret (pe_callTy call_tuple_of (by rfl) B.tuple (by decide +kernel) (pa_cons (pv 2) pa_nil))))))), ?_⟩
  refine s_asgL (el_listT (ed_var rfl hc)) fun l vs H1 hl0 e1 h6 h7 => ?_
  have e7 := paired_int h7
  subst e7
  have em : ∀ {σ' : L2.St} {H' : Hp}, σ'[1]? = some (some u) → Same H H' → Ed (tVar 1) σ' H' (aT aI) [(a1 : Int), (b1 : Int), (c1 : Int), (d1 : Int)] := fun hs e => ed_var hs (Mo.mo e hm)
  refine walk_rooms (fun x => x - 1) dec (fun _ _ => rfl) (ed_cutT (em rfl e1) eo_no (eo_some ed_i)) e1 hl0 h6 ?_ (fun σ' H' x hx => ed_sub hx ed_i) fun rv H2 e2 h8 => ?_
  · intro x hx
    have hx' : x ∈ ([(a1 : Int), (b1 : Int)] : List Int) := hx
    simp only [List.mem_cons, List.not_mem_nil, or_false] at hx'
    rcases hx' with rfl | rfl
    · exact ⟨a1, rfl, h1⟩
    · exact ⟨b1, rfl, h2⟩
  · have hlen : (([(a1 : Int), (b1 : Int)] : List Int).foldl dec c).length = c.length := foldl_len dec_length _ _
    refine walk_rooms (fun x => x + 1) inc (fun _ _ => rfl) (ed_cutT (em rfl e2) (eo_some ed_i) eo_no) e2 hl0 h8 ?_ (fun σ' H' x hx => ed_add hx ed_i) fun rv H3 e3 h9 => ?_
    · intro x hx
      have hx' : x ∈ ([(c1 : Int), (d1 : Int)] : List Int) := hx
      simp only [List.mem_cons, List.not_mem_nil, or_false] at hx'
      have hlen' : (dec (dec c (a1 : Int)) (b1 : Int)).length = c.length := hlen
      rcases hx' with rfl | rfl
      · exact ⟨c1, rfl, by show c1 < (dec (dec c (a1 : Int)) (b1 : Int)).length; rw [hlen']; exact h3⟩
      · exact ⟨d1, rfl, by show d1 < (dec (dec c (a1 : Int)) (b1 : Int)).length; rw [hlen']; exact h4⟩
    · refine s_ret (ed_tupL (ed_var rfl (aL_int h9))) fun w H4 e4 hw => k w H4 (e3.trans e4) hw
def isNext (ρ : Rule) (c : List Int) (k : Int) : Bool := decide (0 ≤ k) && decide (k < (ρ.meets.length : Int)) && mayBe c (ρ.meets.getD k.toNat [])
abbrev SpNext : Sp := Sp3 aR (aT aI) aI (fun ρ c _ => Fits ρ c) aB isNext
abbrev SpWhole : Sp := Sp1 aI (fun _ => True) aB (fun _ => true)
theorem ok_is_next (B : Bt mg) (c_is_whole : Cl P w K mg base CX0 1 "is_whole" ["thing"] [] SpWhole) (c_may_be : Cl P w K mg base CX0 1 "may_be" ["crowd", "meeting"] [] SpMay) (d : Here K mg s_is_next "is_next" []) :
    Cl P w K mg base CX0 2 "is_next" ["rule", "crowd", "number"] [] SpNext := by
  refine d.cl sc_is_next (fun _ _ _ _ _ _ us hl => match us, hl with | [_, _, _], _ => rfl) len3 (fun f cdv A outer s H vs Q E hr h => ?_)
  obtain ⟨v, u, w, ρ, c, n, rfl, hρ, hc, hn, F, k⟩ := h
  have hu := hu_of hr
  refine ⟨_, (pss_one (ps_ret (pe_and (pe_cl c_is_whole (hr.mono (by decide)) (by rfl) pass0 (pa_cons (pv 2) pa_nil)) (pe_and (pe_chain op_le op_lt pe_int (pv 2) (pe_callB call_len_seq (by rfl) B.len PySem.boot_len (pa_cons (pe_ix ix_tup (pv 0) pe_int (fun _ _ => rfl)) pa_nil))) (pe_one (pe_cl c_may_be (hr.mono (by decide)) (by rfl) pass0 (pa_cons (pv 1) (pa_cons (pe_ix ix_tup (pe_ix ix_tup (pv 0) pe_int (fun _ _ => rfl)) (pv 2) (fun _ _ => rfl)) pa_nil)))))))), ?_⟩
  have em : Ed (tOp (rIxT K) (tVar 0) (tC (.int 2))) [some v, some u, some w] H (aT (aT aI)) ρ.meets := ed_R2 (ed_var rfl hρ)
  refine s_ret (x := true && ((decide (0 ≤ n) && decide (n < (ρ.meets.length : Int))) && mayBe c (ρ.meets.getD n.toNat []))) (ed_andV (ed_call1 (ed_var rfl hn) trivial) fun _ => ed_andV (ed_chain ed_i (ed_var rfl hn) (ed_len em)) fun hb => ?_) fun v H1 e hv => k v H1 e ?_
  · simp only [Bool.and_eq_true, decide_eq_true_eq] at hb
    have hlt : n.toNat < ρ.meets.length := by omega
    have ha : atI ρ.meets n = some (ρ.meets.getD n.toNat []) := by
      have := at_ok (d := ([] : List Int)) hlt
      rw [show ((n.toNat : Nat) : Int) = n from by omega] at this; exact this
    refine ed_call2 (ed_var rfl hc) (ed_ixT em (ed_var rfl hn) ha) (F.mw _ ?_)
    rw [List.getD_eq_getElem?_getD, List.getElem?_eq_getElem hlt]
    exact List.getElem_mem hlt
  · exact hv
def metF (ρ : Rule) (c : List Int) (k : Int) : List Int := behind c (ρ.meets.getD k.toNat [])
abbrev SpMet : Sp := Sp3 aR (aT aI) aI (fun ρ c k => Fits ρ c ∧ isNext ρ c k = true) (aT aI) metF
theorem ok_met (B : Bt mg) (c_is_next : Cl P w K mg base CX0 2 "is_next" ["rule", "crowd", "number"] [] SpNext) (c_crowd_behind : Cl P w K mg base CX0 1 "crowd_behind" ["crowd", "meeting"] [] SpBeh) (d : Here K mg s_met "met" []) :
    Cl P w K mg base CX0 3 "met" ["rule", "crowd", "number"] [] SpMet := by
  refine d.cl sc_met (fun _ _ _ _ _ _ us hl => match us, hl with | [_, _, _], _ => rfl) len3 (fun f cdv A outer s H vs Q E hr h => ?_)
  obtain ⟨v, u, w, ρ, c, n, rfl, hρ, hc, hn, ⟨F, hk⟩, k⟩ := h
  have hu := hu_of hr
  refine ⟨_, (pss_cons (ps_if (pt_not (pt_val (pe_cl c_is_next (hr.mono (by decide)) (by rfl) pass0 (pa_cons (pv 0) (pa_cons (pv 1) (pa_cons (pv 2) pa_nil)))))) (pss_one ps_never) pss_nil)
    (pss_one (ps_ret (pe_cl c_crowd_behind (hr.mono (by decide)) (by rfl) pass0 (pa_cons (pv 1) (pa_cons (pe_ix ix_tup (pe_ix ix_tup (pv 0) pe_int (fun _ _ => rfl)) (pv 2) (fun _ _ => rfl)) pa_nil)))))), ?_⟩
  refine s_if (b := false) (et_is (et_not (et_B (ed_call3 (ed_var rfl hρ) (ed_var rfl hc) (ed_var rfl hn) F))) (by rw [hk]; rfl)) (fun z => nomatch z) (fun _ H1 e => ?_)
  have hb := hk
  unfold isNext at hb
  simp only [Bool.and_eq_true, decide_eq_true_eq] at hb
  have hlt : n.toNat < ρ.meets.length := by omega
  have ha : atI ρ.meets n = some (ρ.meets.getD n.toNat []) := by
    have := at_ok (d := ([] : List Int)) hlt
    rw [show ((n.toNat : Nat) : Int) = n from by omega] at this; exact this
  refine s_ret (ed_call2 (ed_var rfl (Mo.mo e hc)) (ed_ixT (ed_R2 (ed_var rfl (Mo.mo e hρ))) (ed_var rfl (Mo.mo e hn)) ha) ⟨F.mw _ ?_, F.nat⟩) fun v H2 e2 hv => k v H2 (e.trans e2) hv
  rw [List.getD_eq_getElem?_getD, List.getElem?_eq_getElem hlt]
  exact List.getElem_mem hlt
/-- what a crowd says -/
def wordsOf (ρ : Rule) (c : List Int) : List Bool := ((num 0 c).filter fun p => decide (0 < p.2)).map fun p => ρ.says.getD p.1.toNat false
def saidB (ρ : Rule) (c : List Int) : Str := if (wordsOf ρ c).contains false = false then "yes" else if (wordsOf ρ c).contains true = true then "both" else "no"
abbrev SpSaid : Sp := Sp2 aR (aT aI) Fits aS saidB
theorem num_at {α : Type} {xs : List α} {p : Int × α} (h : p ∈ num 0 xs) : ∃ n : Nat, p.1 = (n : Int) ∧ xs[n]? = some p.2 := by
  obtain ⟨i, hi, e⟩ := List.mem_iff_getElem.mp h
  have := num_get (i := i) (by rw [List.getElem?_eq_getElem hi, e])
  exact ⟨i, by rw [this.1]; simp, this.2⟩
theorem ok_said (B : Bt mg) (d : Here K mg s_said "said" []) : Cl P w K mg base CX0 1 "said" ["rule", "crowd"] [] SpSaid := by
  refine d.cl sc_said (fun _ _ _ _ _ _ us hl => match us, hl with | [_, _], _ => rfl) len2 (fun f cdv A outer s H vs Q E hr h => ?_)
  obtain ⟨v, u, ρ, c, rfl, hρ, hc, F, k⟩ := h
  have hu := hu_of hr
  refine ⟨_, (pss_cons (ps_setLc (i := 2) (own := [("room", 3), ("many", 4)]) (g := (gTup K 2 (gCons (gName 3) (gCons (gName 4) gNil)))) (tt := (tTest (tOp _ (tVar 4) (tC _)))) (te := (tOp (rIxT K) (tOp (rIxT K) (tVar 0) (tC _)) (tVar 3))) rfl sc_said.nd rfl rfl (sw_true rfl rfl rfl (by decide +kernel)) (pi_enumT rfl B.enumerate (pa_cons (pv 1) pa_nil)) (blkOk_by (own := [("room", 3), ("many", 4)]) (N := ["rule", "crowd", "words", "room", "many"]) (sc := defScope s_said) (by decide +kernel)) (fun _ _ _ _ _ => by exact (pg_tup rfl (pgs_cons (pg_name (i := 3) sc_said.nd rfl (by first | exact Or.inl rfl | exact Or.inr rfl)) (pgs_cons (pg_name (i := 4) sc_said.nd rfl (by first | exact Or.inl rfl | exact Or.inr rfl)) pgs_nil)))) (fun _ _ _ _ _ => by exact (pts_one (pt_cmpR op_gt (pv 4) pe_int (nomark _)))) (fun _ _ _ _ _ => by exact (pe_ix ix_tup (pe_ix ix_tup (pv 0) pe_int (fun _ _ => rfl)) (pv 3) (fun _ _ => rfl))))
    (pss_cons (ps_if (pt_cmpR op_notIn_seq pe_bl (pv 2) (by rfl)) (pss_one (ps_ret pe_str)) pss_nil)
    (pss_one (ps_ret (pe_ifExp (pt_cmpR op_in_seq pe_bl (pv 2) (by rfl)) pe_str pe_str))))), ?_⟩
  refine s_asg (EdL.ed <| el_lc2 (t := fun p => decide (0 < p.2)) (f := fun p => ρ.says.getD p.1.toNat false) (u := aB) (src_enumT (ed_var rfl hc)) (by rw [num_length]; exact F.nat) (fun _ _ => rfl) (fun x v w H1 e hm h1 h2 => ?_) (fun x v w H1 e hm h1 h2 _ => ?_)) fun lv H1 e hl => ?_
  · exact et_test (ed_gt (ed_var rfl h2) ed_i)
  · obtain ⟨n, h3, h4⟩ := num_at hm
    have hlt : n < ρ.says.length := by rw [← F.len]; exact (List.getElem?_eq_some_iff.mp h4).1
    have ha : atI ρ.says x.1 = some (ρ.says.getD x.1.toNat false) := by
      rw [h3]; exact at_ok hlt
    exact ed_ixT (ed_R3 (ed_var rfl (Mo.mo e hρ))) (ed_var rfl h1) ha
  · refine s_if (et_test (ed_ninB ed_b (ed_var rfl hl))) (fun hb H2 e2 => ?_) (fun hb H2 e2 => ?_)
    · refine s_ret ed_s fun v H3 e3 hv => k v H3 ((e.trans e2).trans e3) ?_
      have hb' : (wordsOf ρ c).contains false = false := by
        have hb2 : (!(wordsOf ρ c).contains false) = true := hb
        simpa using hb2
      have e4 : saidB ρ c = "yes" := if_pos hb'
      rw [e4]; exact hv
    · have hb' : ¬ (wordsOf ρ c).contains false = false := by
        have hb2 : (!(wordsOf ρ c).contains false) = false := hb
        simpa using hb2
      refine s_ret (x := if (wordsOf ρ c).contains true = true then ("both" : Str) else "no") (ed_if (et_test (ed_inB ed_b (ed_var rfl (Mo.mo e2 hl)))) (fun hb2 => ed_is ed_s ?_) (fun hb2 => ed_is ed_s ?_)) fun v H3 e3 hv => k v H3 ((e.trans e2).trans e3) ?_
      · have hb3 : (wordsOf ρ c).contains true = true := hb2
        rw [if_pos hb3]
      · have hb3 : (wordsOf ρ c).contains true = false := hb2
        rw [if_neg (by rw [hb3]; decide)]
      · have e4 : saidB ρ c = if (wordsOf ρ c).contains true = true then ("both" : Str) else "no" := if_neg hb'
        rw [e4]; exact hv
/-- a beginning's crowd -/
def addC (c : List Int) (room many : Int) : List Int := c.set room.toNat (c.getD room.toNat 0 + many)
def begF (ρ : Rule) (counts : List Int) : List Int := (num 0 counts).foldl (fun c p => addC c (ρ.starts.getD p.1.toNat 0) p.2) (List.replicate ρ.rooms.toNat 0)
structure FitsB (ρ : Rule) (counts : List Int) : Prop where
  r0 : 0 ≤ ρ.rooms
  r1 : ρ.rooms ≤ 90000
  st : ∀ x ∈ ρ.starts, ∃ n : Nat, x = (n : Int) ∧ (n : Int) < ρ.rooms
  len : counts.length = ρ.starts.length
abbrev SpBegun : Sp := Sp2 aR (aT aI) FitsB (aT aI) begF
theorem foldl_take' {α β : Type} {f : β → α → β} {b : β} {xs : List α} {i : Nat} {x : α} (h : xs[i]? = some x) : (xs.take (i + 1)).foldl f b = f ((xs.take i).foldl f b) x := foldl_take h
theorem addC_len : ∀ (ps : List (Int × Int)) (st : Int → Int) (c : List Int), (ps.foldl (fun c p => addC c (st p.1) p.2) c).length = c.length
  | [], _, _ => rfl
  | p :: r, st, c => by rw [List.foldl_cons, addC_len r]; unfold addC; simp
theorem ok_begun (B : Bt mg) (d : Here K mg s_begun "begun" []) : Cl P w K mg base CX0 1 "begun" ["rule", "counts"] [] SpBegun := by
  refine d.cl sc_begun (fun _ _ _ _ _ _ us hl => match us, hl with | [_, _], _ => rfl) len2 (fun f cdv A outer s H vs Q E hr h => ?_)
  obtain ⟨v, u, ρ, c, rfl, hρ, hc, F, k⟩ := h
  have hu := hu_of hr
  refine ⟨_, (pss_cons (ps_set (i := 2) sc_begun.nd rfl (by first | exact Or.inl rfl | exact Or.inr rfl) (pe_op op_rep (pe_lst (pa_cons pe_int pa_nil)) (pe_ix ix_tup (pv 0) pe_int (fun _ _ => rfl))))
    (pss_cons (ps_for PassesOwn.never rfl (pi_enumT rfl B.enumerate (pa_cons (pv 1) pa_nil)) (pg_tup rfl (pgs_cons (pg_name (i := 3) sc_begun.nd rfl (by first | exact Or.inl rfl | exact Or.inr rfl)) (pgs_cons (pg_name (i := 4) sc_begun.nd rfl (by first | exact Or.inl rfl | exact Or.inr rfl)) pgs_nil)))
    (pss_cons (ps_set (i := 5) sc_begun.nd rfl (by first | exact Or.inl rfl | exact Or.inr rfl) (pe_ix ix_tup (pe_ix ix_tup (pv 0) pe_int (fun _ _ => rfl)) (pv 3) (fun _ _ => rfl)))
    (pss_one (ps_asg (pe_op op_add (pe_ix ix_list (pv 2) (pv 5) (fun _ _ => rfl)) (pv 4)) (pg_sub (pv 2) (pv 5) set_list)))))
    (pss_one (ps_ret (pe_callTy call_tuple_of (by rfl) B.tuple (by decide +kernel) (pa_cons (pv 2) pa_nil)))))), ?_⟩
  refine s_asgL (el_rep ed_i (ed_R0 (ed_var rfl hρ)) F.r0 F.r1) fun l vs H1 hl0 e1 h6 h7 => ?_
  have e7 := paired_int h7
  subst e7
  refine s_forS (srcT_enumT (ed_var rfl (Mo.mo e1 hc))) (fun i σ' H' => ∃ s1 s2 s3, σ' = [some v, some u, some (.ref l), s1, s2, s3] ∧ Same H H' ∧ H' l = some (.lst ((((num 0 c).take i).foldl (fun c p => addC c (ρ.starts.getD p.1.toNat 0) p.2) (List.replicate ρ.rooms.toNat 0)).map V.int)))
    (fun H2 e => ⟨none, none, none, rfl, e1.trans e, e _ _ h6⟩) ?_ ?_
  · rintro H2 i x vx σ' H' H'' e hxi ⟨s1, s2, s3, rfl, sm, h8⟩ hts e9 hx
    refine tg2 hx fun v1 v2 hv1 hv2 => ?_
    obtain ⟨hn1, hn2⟩ := num_get hxi
    have hlt : i < ρ.starts.length := by rw [← F.len]; exact (List.getElem?_eq_some_iff.mp hn2).1
    have e10 : x.1 = (i : Int) := by rw [hn1]; simp
    have hst : ρ.starts.getD i 0 ∈ ρ.starts := by
      rw [List.getD_eq_getElem?_getD, List.getElem?_eq_getElem hlt]; exact List.getElem_mem hlt
    obtain ⟨n, hn, hnl⟩ := F.st _ hst
    have hρ' := Mo.mo (sm.trans e9) hρ
    refine s_asg (ed_ixT (ed_R1 (ed_var rfl hρ')) (ed_var rfl hv1) (by rw [e10]; exact at_ok (d := 0) hlt)) fun rv H3 e3 hrv => ?_
    have hrv' : rv = V.int (n : Int) := by rw [show rv = V.int _ from hrv, hn]
    subst hrv'
    have hlen : (((num 0 c).take i).foldl (fun c p => addC c (ρ.starts.getD p.1.toNat 0) p.2) (List.replicate ρ.rooms.toNat 0)).length = ρ.rooms.toNat := by
      rw [addC_len _ (fun k => ρ.starts.getD k.toNat 0), List.length_replicate]
    have hnl' : n < ρ.rooms.toNat := by omega
    have h9 := e3 _ _ (e9 _ _ h8)
    refine s_setL (n := n) h9 (ed_add (ed_ixL (ed_var rfl (aL_int h9)) (ed_var (r := aI) rfl rfl) (at_ok (d := 0) (by rw [hlen]; exact hnl'))) (ed_var rfl (Mo.mo e3 hv2))) (ed_ref rfl) (ed_var (r := aI) rfl rfl) (ixN_nat (by rw [List.length_map, hlen]; exact hnl')) fun w H4 e4 hw => ?_
    cases hw
    refine ⟨⟨_, _, _, rfl, Same.mut (((sm.trans e9).trans e3).trans e4) hl0, ?_⟩, hts.trans (((TSm.of ((e9.trans e3).trans e4))).trans (TSm.upL (e4 _ _ h9)))⟩
    rw [upd_same, map_set_int, foldl_take hxi, e10]
    show some (HO.lst _) = some (HO.lst ((addC _ (ρ.starts.getD i 0) x.2).map V.int))
    rw [hn]; rfl
  · rintro σ' H' ⟨s1, s2, s3, rfl, sm, h8⟩
    rw [List.take_length] at h8
    exact s_ret (ed_tupL (ed_var rfl (aL_int h8))) fun w H4 e4 hw => k w H4 (sm.trans e4) hw
end
end Pg

set_option Elab.async false
set_option linter.all false
set_option maxRecDepth 100000
set_option maxHeartbeats 4000000
namespace Pg
open PySem PySem.Spec PyProof.Rows L2 Pf
theorem nodup_le {α : Type} [DecidableEq α] : ∀ {L S : List α}, L.Nodup → (∀ x ∈ L, x ∈ S) → L.length ≤ S.length
  | [], S, _, _ => Nat.zero_le _
  | x :: L, S, h, hs => by
    have hx : x ∈ S := hs x (List.mem_cons_self ..)
    have h1 := nodup_le (L := L) (S := S.erase x) (List.nodup_cons.mp h).2 fun y hy => by
      have hne : y ≠ x := fun e => (List.nodup_cons.mp h).1 (e ▸ hy)
      exact (List.mem_erase_of_ne hne).mpr (hs y (List.mem_cons_of_mem _ hy))
    rw [List.length_erase_of_mem hx] at h1
    have : 0 < S.length := List.length_pos_of_mem hx
    rw [List.length_cons]; omega
def stepsB (ρ : Rule) (c : List Int) : List (Int × List Int) := (canB ρ c).map fun k => (k, metF ρ c k)
inductive Reach (ρ : Rule) (c : List Int) : List Int → Prop
  | refl : Reach ρ c c
  | step {x : List Int} {b : Int × List Int} : Reach ρ c x → b ∈ stepsB ρ x → Reach ρ c b.2
def addL (L : List (List Int)) (b : Int × List Int) : List (List Int) := if b.2 ∈ L then L else L ++ [b.2]
def addAll (L : List (List Int)) (bs : List (Int × List Int)) : List (List Int) := bs.foldl addL L
theorem mem_addL {L : List (List Int)} {b : Int × List Int} {x : List Int} : x ∈ addL L b ↔ x ∈ L ∨ x = b.2 := by
  unfold addL
  by_cases h : b.2 ∈ L
  · rw [if_pos h]
    exact ⟨Or.inl, fun z => z.elim id fun e => e ▸ h⟩
  · rw [if_neg h, List.mem_append, List.mem_singleton]
theorem nodup_addL {L : List (List Int)} {b : Int × List Int} (h : L.Nodup) : (addL L b).Nodup := by
  unfold addL
  by_cases hb : b.2 ∈ L
  · rw [if_pos hb]; exact h
  · rw [if_neg hb]
    refine List.nodup_append.mpr ⟨h, by simp, fun x hx y hy => ?_⟩
    rw [List.mem_singleton.mp hy]
    exact fun e => hb (e ▸ hx)
theorem pre_addL (L : List (List Int)) (b : Int × List Int) : ∃ t, addL L b = L ++ t := by
  unfold addL
  by_cases h : b.2 ∈ L
  · exact ⟨[], by rw [if_pos h, List.append_nil]⟩
  · exact ⟨[b.2], by rw [if_neg h]⟩
theorem mem_addAll : ∀ {bs : List (Int × List Int)} {L : List (List Int)} {x : List Int}, x ∈ addAll L bs ↔ x ∈ L ∨ ∃ b ∈ bs, x = b.2
  | [], L, x => by simp [addAll]
  | b :: bs, L, x => by
    show x ∈ addAll (addL L b) bs ↔ _
    rw [mem_addAll, mem_addL]
    simp only [List.mem_cons, or_assoc, exists_eq_or_imp]
theorem nodup_addAll : ∀ {bs : List (Int × List Int)} {L : List (List Int)}, L.Nodup → (addAll L bs).Nodup
  | [], _, h => h
  | b :: bs, L, h => nodup_addAll (bs := bs) (L := addL L b) (nodup_addL h)
theorem pre_addAll : ∀ (bs : List (Int × List Int)) (L : List (List Int)), ∃ t, addAll L bs = L ++ t
  | [], L => ⟨[], by simp [addAll]⟩
  | b :: bs, L => by
    obtain ⟨t, h⟩ := pre_addAll bs (addL L b)
    obtain ⟨u, h2⟩ := pre_addL L b
    exact ⟨u ++ t, by show addAll (addL L b) bs = _; rw [h, h2, List.append_assoc]⟩
theorem addAll_take {bs : List (Int × List Int)} {L : List (List Int)} {i : Nat} {b : Int × List Int} (h : bs[i]? = some b) : addAll L (bs.take (i + 1)) = addL (addAll L (bs.take i)) b := foldl_take h
/-- L in a row, the first n gone through -/
structure Bfs (ρ : Rule) (c : List Int) (n : Nat) (L : List (List Int)) : Prop where
  nd : L.Nodup
  hd : ∃ t, L = c :: t
  le : n ≤ L.length
  re : ∀ x ∈ L, Reach ρ c x
  cl : ∀ i x, i < n → L[i]? = some x → ∀ b ∈ stepsB ρ x, b.2 ∈ L
theorem Bfs.start (ρ : Rule) (c : List Int) : Bfs ρ c 0 [c] := ⟨by simp, ⟨[], rfl⟩, Nat.zero_le _, fun x hx => by rw [List.mem_singleton.mp hx]; exact .refl, fun i x h => by omega⟩
theorem Bfs.next {ρ : Rule} {c : List Int} {n : Nat} {L : List (List Int)} {x : List Int} (B : Bfs ρ c n L) (hx : L[n]? = some x) : Bfs ρ c (n + 1) (addAll L (stepsB ρ x)) := by
  obtain ⟨t, ht⟩ := pre_addAll (stepsB ρ x) L
  have hn : n < L.length := (List.getElem?_eq_some_iff.mp hx).1
  refine ⟨nodup_addAll B.nd, ?_, ?_, fun y hy => ?_, fun i y hi hy b hb => ?_⟩
  · obtain ⟨u, hu⟩ := B.hd
    exact ⟨u ++ t, by rw [ht, hu]; rfl⟩
  · rw [ht, List.length_append]; omega
  · rcases mem_addAll.mp hy with h | ⟨b, hb, rfl⟩
    · exact B.re y h
    · exact .step (B.re x (List.mem_of_getElem? hx)) hb
  · have hy' : L[i]? = some y := by
      rw [ht, List.getElem?_append_left (by omega)] at hy; exact hy
    by_cases e : i = n
    · subst e
      rw [hx] at hy'; cases hy'
      exact mem_addAll.mpr (Or.inr ⟨b, hb, rfl⟩)
    · exact mem_addAll.mpr (Or.inl (B.cl i y (by omega) hy' b hb))
theorem Bfs.all {ρ : Rule} {c : List Int} {n : Nat} {L : List (List Int)} (B : Bfs ρ c n L) (h : L.length ≤ n) (x : List Int) : x ∈ L ↔ Reach ρ c x := by
  refine ⟨B.re x, fun r => ?_⟩
  induction r with
  | refl => obtain ⟨t, ht⟩ := B.hd; rw [ht]; exact List.mem_cons_self ..
  | step _ hb ih =>
    obtain ⟨i, hi⟩ := List.mem_iff_getElem?.mp ih
    exact B.cl i _ (Nat.lt_of_lt_of_le (List.getElem?_eq_some_iff.mp hi).1 h) hi _ hb
theorem behind_length (c m : List Int) : (behind c m).length = c.length := by
  unfold behind
  split
  · rw [inc_length, inc_length, dec_length, dec_length]
  · rfl
theorem reach_length {ρ : Rule} {c x : List Int} (h : Reach ρ c x) : x.length = c.length := by
  induction h with
  | refl => rfl
  | step _ hb ih =>
    obtain ⟨k, _, e⟩ := List.mem_map.mp hb
    rw [← e]; show (behind _ _).length = _
    rw [behind_length, ih]
theorem Fits.reach {ρ : Rule} {c x : List Int} (F : Fits ρ c) (h : Reach ρ c x) : Fits ρ x := by
  have e := reach_length h
  exact ⟨by rw [e]; exact F.len, fun m hm => by rw [e]; exact F.mw m hm, F.few, by rw [e]; exact F.nat⟩
/-- what comes of c, all told -/
def Comes (ρ : Rule) (c : List Int) (S : List (List Int)) : Prop := S.Nodup ∧ ∀ x, x ∈ S ↔ Reach ρ c x
def graphB (ρ : Rule) (ks : List (List Int)) : List (List Int × List (Int × List Int)) := ks.map fun x => (x, stepsB ρ x)
/-- keys with truth -/
def seenB (L : List (List Int)) : List (List Int × Bool) := L.map fun x => (x, true)
theorem look_map {β : Type} (f : List Int → β) (L : List (List Int)) (c : List Int) : look (L.map fun x => (x, f x)) c = if c ∈ L then some (f c) else none := by
  induction L with
  | nil => rfl
  | cons y L ih =>
    rw [List.map_cons, look_cons, ih]
    by_cases h : y = c
    · rw [if_pos h, if_pos (by rw [h]; exact List.mem_cons_self ..), h]
    · rw [if_neg h]
      by_cases h2 : c ∈ L
      · rw [if_pos h2, if_pos (List.mem_cons_of_mem _ h2)]
      · rw [if_neg h2, if_neg (fun z => (List.mem_cons.mp z).elim (fun e => h e.symm) h2)]
theorem look_seen (L : List (List Int)) (c : List Int) : (look (seenB L) c).isSome = decide (c ∈ L) := by
  show (look (L.map fun x => (x, true)) c).isSome = _
  rw [look_map (fun _ => true)]
  by_cases h : c ∈ L
  · rw [if_pos h, decide_eq_true h]; rfl
  · rw [if_neg h, decide_eq_false h]; rfl
section
variable {P : Program} {w : World} {K : PySem.W.Frag} {mg : Str → Option Value} {base : Heap}
/-- steps: a list of pairs -/
abbrev aSt : Rl (List (Int × List Int)) := aL (aP aI (aT aI))
/-- promises that may raise the class at C -/
def SpX {α β : Type} (A : Hp → List V → α → Prop) (pre ok : α → Prop) (t : Rl β) (post : α → β → Prop) (C : Addr) : Sp := fun vs H Q E => ∃ x, A H vs x ∧ pre x ∧ (ok x → ∀ w H' y, Same H H' → t H' w y → post x y → Q w H') ∧ (¬ ok x → ∀ H', Same H H' → E (.ref C) none H')
def A3 {α β γ : Type} (r : Rl α) (s : Rl β) (t : Rl γ) : Hp → List V → α × β × γ → Prop := fun H vs p => ∃ v u w, vs = [v, u, w] ∧ r H v p.1 ∧ s H u p.2.1 ∧ t H w p.2.2
def A4 {α β γ δ : Type} (r : Rl α) (s : Rl β) (t : Rl γ) (q : Rl δ) : Hp → List V → α × β × γ × δ → Prop := fun H vs p => ∃ v u w z, vs = [v, u, w, z] ∧ r H v p.1 ∧ s H u p.2.1 ∧ t H w p.2.2.1 ∧ q H z p.2.2.2
def PreG (p : Rule × List Int × Int) : Prop := Fits p.1 p.2.1 ∧ ∃ S, Comes p.1 p.2.1 S ∧ S.length ≤ 90000
def OkG (p : Rule × List Int × Int) : Prop := ∃ S, Comes p.1 p.2.1 S ∧ (S.length : Int) ≤ p.2.2
/-- the keys of the graph: what comes, c ahead -/
def KeysG (ρ : Rule) (c : List Int) (ks : List (List Int)) : Prop := Comes ρ c ks ∧ ∃ t, ks = c :: t
def PostG (p : Rule × List Int × Int) (g : List (List Int × List (Int × List Int))) : Prop := ∃ ks, g = graphB p.1 ks ∧ KeysG p.1 p.2.1 ks
abbrev SpGr (C : Addr) : Sp := SpX (A3 aR (aT aI) aI) PreG OkG (aU aSt) PostG C
theorem comes_len {ρ : Rule} {c : List Int} {S T : List (List Int)} (h : Comes ρ c S) (h' : Comes ρ c T) : S.length = T.length :=
  Nat.le_antisymm (nodup_le h.1 fun x hx => (h'.2 x).mpr ((h.2 x).mp hx)) (nodup_le h'.1 fun x hx => (h.2 x).mpr ((h'.2 x).mp hx))
theorem canB_next {ρ : Rule} {c : List Int} {k : Int} (h : k ∈ canB ρ c) : isNext ρ c k = true := by
  unfold canB at h
  obtain ⟨p, hp, rfl⟩ := List.mem_map.mp h
  obtain ⟨h1, h2⟩ := List.mem_filter.mp hp
  obtain ⟨n, h3, h4⟩ := num_at h1
  obtain ⟨h5, h6⟩ := List.getElem?_eq_some_iff.mp h4
  unfold isNext
  have e : ρ.meets.getD p.1.toNat [] = p.2 := by
    rw [h3, Int.toNat_natCast, List.getD_eq_getElem?_getD, h4]; rfl
  rw [e, h2, h3]
  simp only [Bool.and_true, Bool.and_eq_true, decide_eq_true_eq]
  omega
theorem canB_length (ρ : Rule) (c : List Int) : (canB ρ c).length ≤ ρ.meets.length := by
  unfold canB
  rw [List.length_map]
  exact Nat.le_trans (List.length_filter_le _ _) (by rw [num_length]; exact Nat.le_refl _)
abbrev aStX (l : Addr) : Rl (List (Int × List Int)) := aX (· = l) (aP aI (aT aI))
structure GSt (H0 : Hp) (f l sd : Addr) (ρ : Rule) (done L : List (List Int)) (H' : Hp) : Prop where
  s : Same H0 H'
  F : ∃ kvs, H' f = some (.dT kvs) ∧ KvP (aStX l) H' kvs (graphB ρ done)
  W : ∃ ws, H' l = some (.lst ws) ∧ Paired (aT aI H') ws L
  D : ∃ kvs, H' sd = some (.dT kvs) ∧ KvP aB H' kvs (seenB L)
theorem GSt.same {H0 : Hp} {f l sd : Addr} {ρ : Rule} {done L : List (List Int)} {H1 H2 : Hp} (e : Same H1 H2) (g : GSt H0 f l sd ρ done L H1) : GSt H0 f l sd ρ done L H2 := by
  obtain ⟨s, ⟨k1, f1, f2⟩, ⟨ws, l1, l2⟩, ⟨k2, d1, d2⟩⟩ := g
  exact ⟨s.trans e, ⟨k1, e _ _ f1, kvP_same e f2⟩, ⟨ws, e _ _ l1, paired_same e l2⟩, ⟨k2, e _ _ d1, kvP_same e d2⟩⟩
theorem graphB_len (ρ : Rule) (ks : List (List Int)) : (graphB ρ ks).length = ks.length := List.length_map _
theorem look_graph (ρ : Rule) (ks : List (List Int)) (c : List Int) : look (graphB ρ ks) c = if c ∈ ks then some (stepsB ρ c) else none := look_map (stepsB ρ) ks c
theorem ok_graph_of (B : Bt mg) {C : Addr} (ET : Exc0 K mg "TooMany" C) (c_can : Cl P w K mg base CX0 2 "can" ["rule", "crowd"] [] SpCan) (c_met : Cl P w K mg base CX0 3 "met" ["rule", "crowd", "number"] [] SpMet) (d : Here K mg s_graph_of "graph_of" []) :
    Cl P w K mg base (L2.CX P w) 4 "graph_of" ["rule", "crowd", "limit"] [] (SpGr C) := by
  refine d.clX sc_graph_of (fun _ _ _ _ _ _ us hl => match us, hl with | [_, _, _], _ => rfl) (fun _ _ _ _ ⟨_, ⟨_, _, _, h, _⟩, _⟩ => by rw [h]; rfl) (fun f cdv A outer s H vs Q E hr h => ?_)
  obtain ⟨⟨ρ, c, lim⟩, ⟨v, u, w, rfl, hρ, hc, hw⟩, ⟨F, S, hS, hS9⟩, kt, kf⟩ := h
  cases hw
  have hu := hu_of hr
  refine ⟨_, (pss_cons (ps_set (i := 3) sc_graph_of.nd rfl (by first | exact Or.inl rfl | exact Or.inr rfl) pe_dnewT)
    (pss_cons (ps_set (i := 4) sc_graph_of.nd rfl (by first | exact Or.inl rfl | exact Or.inr rfl) (pe_lst (pa_cons (pv 1) pa_nil)))
    (pss_cons (ps_set (i := 5) sc_graph_of.nd rfl (by first | exact Or.inl rfl | exact Or.inr rfl) (pe_disp1 hu (pv 1) pe_bl))
    (pss_cons (ps_while (passes_of rfl) (pt_cmpR op_lt (pe_callB call_len_dT (by rfl) B.len PySem.boot_len (pa_cons (pv 3) pa_nil)) (pe_callB call_len_seq (by rfl) B.len PySem.boot_len (pa_cons (pv 4) pa_nil)) (nomark _)) (pss_cons (ps_set (i := 6) sc_graph_of.nd rfl (by first | exact Or.inl rfl | exact Or.inr rfl) (pe_ix ix_list (pv 4) (pe_callB call_len_dT (by rfl) B.len PySem.boot_len (pa_cons (pv 3) pa_nil)) (fun _ _ => rfl)))
    (pss_cons (ps_dput hu (pv 3) (pv 6) (pe_lc (own := [("number", 7)]) (g := (gName 7)) (tt := tYes) (te := (tTup (tCons (tVar 7) (tCons (tCall _ _ _ (tCons (tVar 0) (tCons (tVar 6) (tCons (tVar 7) tNil)))) tNil)))) rfl sc_graph_of.nd (pi_list (pe_cl c_can (hr.mono (by decide)) (by rfl) pass0 (pa_cons (pv 0) (pa_cons (pv 6) pa_nil)))) (blkOk_by (own := [("number", 7)]) (N := ["rule", "crowd", "limit", "found", "line", "seen", "here", "number", "behind"]) (sc := defScope s_graph_of) (by decide +kernel)) (fun _ _ _ _ _ => by exact (pg_name (i := 7) sc_graph_of.nd rfl (by first | exact Or.inl rfl | exact Or.inr rfl))) (fun _ _ _ _ _ => by exact pts_nil) (fun _ _ _ _ _ => by exact (pe_tup (pa_cons (pv 7) (pa_cons (pe_cl c_met (hr.mono (by decide)) (by rfl) pass0 (pa_cons (pv 0) (pa_cons (pv 6) (pa_cons (pv 7) pa_nil)))) pa_nil))))) rfl)
    (pss_cons (ps_for (passes_of rfl) rfl (pi_list (pe_dget hu (pv 3) (pv 6) (fun _ _ => rfl))) (pg_tup rfl (pgs_cons (pg_name (i := 7) sc_graph_of.nd rfl (by first | exact Or.inl rfl | exact Or.inr rfl)) (pgs_cons (pg_name (i := 8) sc_graph_of.nd rfl (by first | exact Or.inl rfl | exact Or.inr rfl)) pgs_nil)))
    (pss_one (ps_if (pt_cmp (pc_dnotin hu (pv 8) (pv 5)) (by rfl)) (pss_cons (ps_dput hu (pv 5) (pv 8) pe_bl rfl)
    (pss_one (ps_expr (pe_bm PySem.F.plainAttrs_list PySem.F.slot_list_append PySem.F.type_list_append mt_append (pv 4) (pa_cons (pv 8) pa_nil))))) pss_nil)))
    (pss_one (ps_if (pt_cmpR op_gt (pe_callB call_len_seq (by rfl) B.len PySem.boot_len (pa_cons (pv 4) pa_nil)) (pv 2) (nomark _)) (pss_one (ps_raise (W := wE E) rfl (takes_of rfl rfl rfl rfl) (pmk_own0 PySem.F.excBase_ValueError ET.ex ET.g ET.kp (raises_own ET.sub ET.ty) rfl))) pss_nil))))))
    (pss_one (ps_ret (pv 3))))))), ?_⟩
  refine s_newD fun f hf0 => ?_
  have e1 : Same H (upd H f (.dT [])) := Same.new hf0
  refine s_asgL (el_lst (eal_cons (ed_var rfl (Mo.mo e1 hc)) eal_nil) (by show 1 ≤ 100000; decide)) fun l ws H2 hl0 e2 hl hlp => ?_
  refine s_asgD (d_disp1 (ed_var rfl (Mo.mo (e1.trans e2) hc)) ed_b) fun sd kvs H3 hd0 e3 hd hdp => ?_
  have hf3 : H3 f = some (.dT []) := e3 _ _ (e2 _ _ upd_same)
  have hfl : f ≠ l := fun z => by subst z; rw [upd_same] at hl0; cases hl0
  have hfd : f ≠ sd := fun z => by subst z; rw [e2 _ _ upd_same] at hd0; cases hd0
  have hld : l ≠ sd := fun z => by subst z; rw [hl] at hd0; cases hd0
  have hl0' : H l = none := e1.free hl0
  have hd0' : H sd = none := (e1.trans e2).free hd0
  have bfsS : ∀ {n L}, Bfs ρ c n L → L.length ≤ S.length := fun B => nodup_le B.nd fun x hx => (hS.2 x).mpr (B.re x hx)
  refine s_while (fun m σ' H' => ∃ n L s6 s7 s8, σ' = [some v, some u, some (.int lim), some (.ref f), some (.ref l), some (.ref sd), s6, s7, s8] ∧ Bfs ρ c n L ∧ (n = 0 ∨ (L.length : Int) ≤ lim) ∧ m = S.length - n ∧ GSt H f l sd ρ (L.take n) L H') S.length ⟨0, [c], none, none, none, rfl, Bfs.start ρ c, Or.inl rfl, by omega, (e1.trans e2).trans e3, ⟨[], hf3, .nil⟩, ⟨ws, e3 _ _ hl, paired_same e3 hlp⟩, ⟨kvs, hd, hdp⟩⟩ ?_
  rintro m σ' H' ⟨n, L, s6, s7, s8, rfl, Bf, hlim, rfl, G⟩
  obtain ⟨sm, ⟨k1, f1, f2⟩, ⟨ws, l1, l2⟩, ⟨k2, d1, d2⟩⟩ := id G
  have hk1 : k1.length = n := by
    have := f2.length
    rw [graphB_len, List.length_take] at this
    have := Bf.le; omega
  refine ⟨decide ((k1.length : Int) < (L.length : Int)), et_test (ed_lt (ed_lenD rfl f1) (ed_lenL (ed_own rfl l1 l2))), fun hb H1 e => ?_, fun hb H1 e => ?_⟩
  · have hn : n < L.length := by have := of_decide_eq_true hb; omega
    have hx : L[n]? = some L[n] := List.getElem?_eq_getElem hn
    have hre := Bf.re _ (List.mem_of_getElem? hx)
    have Fx := F.reach hre
    generalize hxe : L[n] = x at hx hre Fx
    have G1 := G.same e
    obtain ⟨sm, ⟨k1', f1, f2⟩, ⟨ws, l1, l2⟩, ⟨k2, d1, d2⟩⟩ := id G1
    have hk1' : k1'.length = n := by
      have := f2.length
      rw [graphB_len, List.length_take] at this
      omega
    refine s_asg (ed_ixL (ed_own rfl l1 l2) (ed_lenD rfl f1) (by rw [hk1']; exact atI_nat hx)) fun xv H4 e4 hxv => ?_
    have G2 := G1.same e4
    obtain ⟨sm2, ⟨k1'', f1, f2⟩, ⟨ws, l1, l2⟩, ⟨k2, d1, d2⟩⟩ := id G2
    have hk1'' : k1''.length = n := by
      have := f2.length
      rw [graphB_len, List.length_take] at this
      omega
    have hgn : look (graphB ρ (L.take n)) x = none := by
      rw [look_graph, if_neg]
      intro hm
      obtain ⟨i, hi⟩ := List.mem_iff_getElem?.mp hm
      obtain ⟨h5, h6⟩ := List.getElem?_eq_some_iff.mp hi
      rw [List.length_take] at h5
      rw [List.getElem_take] at h6
      have := (List.getElem_inj Bf.nd (i := i) (j := n) (h₀ := by omega) (h₁ := hn)).mp (by rw [h6, hxe])
      omega
    refine s_putD (r := aStX l) (x := stepsB ρ x) f1 (EdL.edX (el_is (el_lc1 (t := fun _ => true) (f := fun k => (k, metF ρ x k)) (u := aP aI (aT aI)) (src_list (ed_call2 (ed_var rfl (Mo.mo sm2 hρ)) (ed_var rfl hxv) Fx)) (Nat.le_trans (canB_length _ _) F.few) (fun _ => rfl) (fun k kv H5 e5 hk hkv => et_yes) (fun k kv H5 e5 hk hkv _ => ed_pair (ed_var rfl hkv) (ed_call3 (ed_var rfl (Mo.mo (sm2.trans e5) hρ)) (ed_var rfl (Mo.mo e5 hxv)) (ed_var rfl hkv) ⟨Fx, canB_next hk⟩))) (by rw [List.filter_eq_self.mpr (fun _ _ => rfl)]; rfl)) (fun a ha => by rw [ha, l1]; exact fun z => nomatch z)) (ed_ref rfl) (ed_var rfl hxv) (by rw [hk1'']; have := bfsS Bf; omega) fun sv H5 e5 hsv => ?_
    rw [putK_snoc sv f2 hgn]
    have f15 := e5 _ _ f1
    have l15 := e5 _ _ l1
    have d15 := e5 _ _ d1
    have htk : L.take (n + 1) = L.take n ++ [x] := by rw [List.take_succ, hx]; rfl
    have u5 : ∀ {z : V} {o : HO} {y : List Int}, aT aI H5 z y → aT aI (upd H5 f o) z y := fun h => Im.upD f15 h
    have G3 : GSt H f l sd ρ (L.take (n + 1)) L (upd H5 f (.dT (k1'' ++ [(kk x, sv)]))) := by
      refine ⟨Same.mut (sm2.trans e5) hf0, ⟨_, upd_same, ?_⟩, ⟨ws, by rw [upd_ne (Ne.symm hfl)]; exact l15, Paired.imp l2 fun _ _ q => u5 (Mo.mo e5 q)⟩, ⟨k2, by rw [upd_ne (Ne.symm hfd)]; exact d15, kvP_ts (TSm.upD f15) (kvP_same e5 d2)⟩⟩
      rw [htk, show graphB ρ (L.take n ++ [x]) = graphB ρ (L.take n) ++ [(x, stepsB ρ x)] from by unfold graphB; rw [List.map_append]; rfl]
      exact KvP.snoc (kvP_ls (LSm.upD f15) (kvP_same e5 f2)) (aX.ls (LSm.upD f15) hsv)
    have hxv3 : aT aI (upd H5 f (.dT (k1'' ++ [(kk x, sv)]))) xv x := u5 (Mo.mo e5 hxv)
    clear f15 l15 d15
    obtain ⟨sm3, ⟨k13, f13, f23⟩, ⟨ws3, l13, l23⟩, ⟨k23, d13, d23⟩⟩ := id G3
    have hlk : look (graphB ρ (L.take (n + 1))) x = some (stepsB ρ x) := by
      rw [look_graph, if_pos (by rw [htk]; simp)]
    have hBn := Bf.next hx
    have hst : (stepsB ρ x).length ≤ 90000 := by
      unfold stepsB; rw [List.length_map]; exact Nat.le_trans (canB_length _ _) F.few
    have hAll : ∀ i, (addAll L ((stepsB ρ x).take i)).length ≤ S.length := fun i => nodup_le (nodup_addAll Bf.nd) fun y hy => by
      refine (hS.2 y).mpr ?_
      rcases mem_addAll.mp hy with h | ⟨b, hb, rfl⟩
      · exact Bf.re y h
      · exact .step hre (List.mem_of_mem_take hb)
    refine s_forX (S := (· = l)) (r := aP aI (aT aI)) (ed_ixD (ed_ownD rfl f13 f23) (ed_var rfl hxv3) hlk) (fun i σ' H' => ∃ s7 s8, σ' = [some v, some u, some (.int lim), some (.ref f), some (.ref l), some (.ref sd), some xv, s7, s8] ∧ GSt H f l sd ρ (L.take (n + 1)) (addAll L ((stepsB ρ x).take i)) H') (fun H6 e6 => ⟨_, _, rfl, G3.same e6⟩) ?_ ?_
    · rintro H6 i b bv σ' H7 e6 hbi ⟨s7, s8, rfl, G4⟩ hls hbv
      refine tg2 hbv fun v1 v2 h1 h2 => ?_
      obtain ⟨sm4, ⟨k14, f14, f24⟩, ⟨ws4, l14, l24⟩, ⟨k24, d14, d24⟩⟩ := id G4
      have hadd : addAll L ((stepsB ρ x).take (i + 1)) = addL (addAll L ((stepsB ρ x).take i)) b := addAll_take hbi
      refine s_if (b := !(look (seenB (addAll L ((stepsB ρ x).take i))) b.2).isSome) (et_B (ed_notInD (ed_var rfl h2) (ed_ownD rfl d14 d24))) (fun hb H8 e8 => ?_) (fun hb H8 e8 => ?_)
      · have hnm : b.2 ∉ addAll L ((stepsB ρ x).take i) := by
          rw [look_seen] at hb
          simpa using hb
        have hln : look (seenB (addAll L ((stepsB ρ x).take i))) b.2 = none := by
          have := look_seen (addAll L ((stepsB ρ x).take i)) b.2
          rw [decide_eq_false hnm] at this
          simpa using this
        have hlw := l24.length
        have hld2 := d24.length
        have hAi := hAll i
        refine s_putD (e8 _ _ d14) (ed_b (b := true)) (ed_ref rfl) (ed_var rfl (Mo.mo e8 h2)) (by rw [hld2]; unfold seenB; rw [List.length_map]; omega) fun bw H9 e9 hbw => ?_
        cases hbw
        have d19 := e9 _ _ (e8 _ _ d14)
        have l19 := e9 _ _ (e8 _ _ l14)
        have f19 := e9 _ _ (e8 _ _ f14)
        have hd24 := kvP_same (e8.trans e9) d24
        rw [putK_snoc (.bl true) hd24 hln]
        refine s_app (by rw [upd_ne hld]; exact l19) (ed_ref rfl) (ed_var rfl (Im.upD d19 (Mo.mo (e8.trans e9) h2))) (by omega) fun yv H10 e10 hyv => ?_
        have d110 := e10 _ _ (upd_same (H := H9) (a := sd))
        have l110 : H10 l = some (.lst ws4) := e10 _ _ (by rw [upd_ne hld]; exact l19)
        have f110 : H10 f = some (.dT k14) := e10 _ _ (by rw [upd_ne hfd]; exact f19)
        have ls1 : LSm (· = l) H7 H10 := (LSm.of (e8.trans e9)).trans ((LSm.upD d19).trans (LSm.of e10))
        have ls2 : LSm (· = l) H7 (upd H10 l (.lst (ws4 ++ [yv]))) := ls1.trans (LSm.upL rfl l110)
        refine ⟨⟨_, _, rfl, Same.mut ((Same.mut ((sm4.trans e8).trans e9) hd0').trans e10) hl0', ⟨k14, by rw [upd_ne hfl]; exact f110, kvP_ls ls2 f24⟩, ⟨_, upd_same, ?_⟩, ⟨_, by rw [upd_ne (Ne.symm hld)]; exact d110, ?_⟩⟩, hls.trans ls2⟩
        · rw [hadd]; unfold addL; rw [if_neg hnm]
          exact Paired.snoc (paired_ts ls2.tup l24) (Im.upL l110 hyv)
        · rw [hadd]; unfold addL; rw [if_neg hnm]
          show KvP aB _ _ ((addAll L ((stepsB ρ x).take i) ++ [b.2]).map fun x => (x, true))
          rw [List.map_append]
          exact KvP.snoc (kvP_ts ((TSm.upD d19).trans ((TSm.of e10).trans (TSm.upL l110))) hd24) rfl
      · have hm : b.2 ∈ addAll L ((stepsB ρ x).take i) := by
          rw [look_seen] at hb
          simpa using hb
        refine ⟨⟨_, _, rfl, ?_⟩, hls.trans (LSm.of e8)⟩
        rw [hadd]; unfold addL; rw [if_pos hm]
        exact G4.same e8
    · rintro H6 σ' H7 e6 hls ⟨s7, s8, rfl, G4⟩
      rw [List.take_length] at G4
      obtain ⟨sm4, ⟨k14, f14, f24⟩, ⟨ws4, l14, l24⟩, ⟨k24, d14, d24⟩⟩ := id G4
      dsimp only
      refine s_if (b := decide (lim < ((addAll L (stepsB ρ x)).length : Int))) (et_test (ed_gt (ed_lenL (ed_own (i := 4) rfl l14 l24)) (ed_var (r := aI) (i := 2) (v := .int lim) rfl rfl))) (fun hb H8 e8 => ?_) (fun hb H8 e8 => ?_)
      · have hb' := of_decide_eq_true hb
        refine kf ?_ _ (sm4.trans e8)
        rintro ⟨S', hS', hle⟩
        have h1 := comes_len hS hS'
        have h2 := bfsS hBn
        have h3 : (S'.length : Int) ≤ lim := hle
        omega
      · have hb' := of_decide_eq_false hb
        refine ⟨S.length - (n + 1), ?_, n + 1, addAll L (stepsB ρ x), _, _, _, rfl, hBn, Or.inr (by omega), rfl, ?_⟩
        · have := bfsS Bf; omega
        · have : (addAll L (stepsB ρ x)).take (n + 1) = L.take (n + 1) := by
            obtain ⟨t, ht⟩ := pre_addAll (stepsB ρ x) L
            rw [ht, List.take_append_of_le_length (by omega)]
          rw [this]
          exact G4.same e8
  · have hn : L.length ≤ n := by have := of_decide_eq_false hb; omega
    have hcl := Bf.all hn
    have G1 := G.same e
    obtain ⟨sm1, ⟨k1', f1, f2⟩, _, _⟩ := id G1
    have hC : Comes ρ c L := ⟨Bf.nd, hcl⟩
    have hpos : 0 < L.length := by obtain ⟨t, ht⟩ := Bf.hd; rw [ht]; exact Nat.succ_pos _
    have hle : (L.length : Int) ≤ lim := hlim.resolve_left (by omega)
    rw [List.take_of_length_le hn] at f2
    refine s_ret (r := aU aSt) (x := graphB ρ L) (ed_var rfl ⟨f, k1', rfl, f1, kvP_imp (fun _ _ q => aX.l q) f2⟩) fun rv H9 e9 hrv => ?_
    exact kt ⟨L, hC, hle⟩ rv H9 _ (sm1.trans e9) hrv ⟨L, rfl, hC, Bf.hd⟩
end
end Pg

set_option Elab.async false
set_option linter.all false
set_option maxRecDepth 100000
set_option maxHeartbeats 4000000
namespace Pg
open PySem PySem.Spec PyProof.Rows L2 Pf
inductive Path (ρ : Rule) (c : List Int) : List Int → List Int → Prop
  | nil : Path ρ c [] c
  | snoc {ns : List Int} {x : List Int} {b : Int × List Int} : Path ρ c ns x → b ∈ stepsB ρ x → Path ρ c (ns ++ [b.1]) b.2
theorem Path.reach {ρ : Rule} {c x : List Int} {ns : List Int} (h : Path ρ c ns x) : Reach ρ c x := by
  induction h with
  | nil => exact .refl
  | snoc _ hb ih => exact .step ih hb
theorem Reach.trans {ρ : Rule} {a b c : List Int} (h : Reach ρ a b) (h' : Reach ρ b c) : Reach ρ a c := by
  induction h' with
  | refl => exact h
  | step _ hb ih => exact .step ih hb
abbrev Trail := List (List Int × Option (List Int × Int))
inductive Tree (ρ : Rule) (c : List Int) : Trail → Prop
  | root : Tree ρ c [(c, none)]
  | add {st : Trail} {p : List Int} {b : Int × List Int} : Tree ρ c st → p ∈ st.map (·.1) → b ∈ stepsB ρ p → b.2 ∉ st.map (·.1) → Tree ρ c (st ++ [(b.2, some (p, b.1))])
inductive Back (ρ : Rule) (c : List Int) (st : Trail) : List Int → List Int → Prop
  | nil : look st c = some none → Back ρ c st c []
  | cons {x p : List Int} {k : Int} {ns : List Int} : look st x = some (some (p, k)) → (k, x) ∈ stepsB ρ p → Back ρ c st p ns → Back ρ c st x (k :: ns)
theorem look_app {st : Trail} {e : List Int × Option (List Int × Int)} {x : List Int} {o : Option (List Int × Int)} (h : e.1 ∉ st.map (·.1)) (hx : look st x = some o) : look (st ++ [e]) x = some o := by
  obtain ⟨a, b⟩ := e
  rw [look_snoc (look_none_iff.mpr h)]
  rw [if_neg, hx]
  intro e
  have : x ∈ st.map (·.1) := look_isSome_iff.mp (by rw [hx]; rfl)
  exact h (e ▸ this)
theorem Back.mono {ρ : Rule} {c : List Int} {st : Trail} {e : List Int × Option (List Int × Int)} (he : e.1 ∉ st.map (·.1)) {x ns : List Int} (h : Back ρ c st x ns) : Back ρ c (st ++ [e]) x ns := by
  induction h with
  | nil h => exact .nil (look_app he h)
  | cons h1 h2 _ ih => exact .cons (look_app he h1) h2 ih
theorem Tree.back {ρ : Rule} {c : List Int} {st : Trail} (h : Tree ρ c st) : ∀ x ∈ st.map (·.1), ∃ ns, Back ρ c st x ns ∧ ns.length < st.length := by
  induction h with
  | root =>
    intro x hx
    have : x = c := by simpa using hx
    subst this
    exact ⟨[], .nil (by rw [look_cons, if_pos rfl]), Nat.zero_lt_one⟩
  | @add st p b t hp hb hn ih =>
    intro x hx
    rw [List.map_append, List.mem_append] at hx
    rcases hx with hx | hx
    · obtain ⟨ns, h1, h2⟩ := ih x hx
      exact ⟨ns, h1.mono hn, by rw [List.length_append]; omega⟩
    · have : x = b.2 := by simpa using hx
      subst this
      obtain ⟨ns, h1, h2⟩ := ih p hp
      refine ⟨b.1 :: ns, .cons ?_ hb (h1.mono hn), by rw [List.length_append, List.length_cons]; exact Nat.succ_lt_succ h2⟩
      rw [look_snoc (look_none_iff.mpr hn), if_pos rfl]
theorem Back.path {ρ : Rule} {c : List Int} {st : Trail} {x ns : List Int} (h : Back ρ c st x ns) : Path ρ c ns.reverse x := by
  induction h with
  | nil _ => exact .nil
  | cons _ hb _ ih => rw [List.reverse_cons]; exact .snoc ih hb
/-- ks hold what comes of each of them -/
structure Gr (ρ : Rule) (ks : List (List Int)) : Prop where
  nd : ks.Nodup
  cl : ∀ x ∈ ks, ∀ b ∈ stepsB ρ x, b.2 ∈ ks
  few : ks.length ≤ 90000
theorem Gr.reach {ρ : Rule} {ks : List (List Int)} (G : Gr ρ ks) {x y : List Int} (hx : x ∈ ks) (h : Reach ρ x y) : y ∈ ks := by
  induction h with
  | refl => exact hx
  | step _ hb ih => exact G.cl _ ih _ hb
theorem Comes.gr {ρ : Rule} {c : List Int} {ks : List (List Int)} (h : Comes ρ c ks) (hf : ks.length ≤ 90000) : Gr ρ ks :=
  ⟨h.1, fun x hx b hb => (h.2 _).mpr (.step ((h.2 x).mp hx) hb), hf⟩
def aG : Rl (Rule × List (List Int)) := fun H v p => aU aSt H v (graphB p.1 p.2)
instance : Ms aG := ⟨fun e h => Mo.mo (r := aU aSt) e h⟩
section
variable {P : Program} {w : World} {K : PySem.W.Frag} {mg : Str → Option Value} {base : Heap}
/-- promises that never raise -/
def SpP {α β : Type} (A : Hp → List V → α → Prop) (pre : α → Prop) (t : Rl β) (post : α → β → Prop) : Sp := fun vs H Q _ => ∃ x, A H vs x ∧ pre x ∧ ∀ w H' y, Same H H' → t H' w y → post x y → Q w H'
def A1 {α : Type} (r : Rl α) : Hp → List V → α → Prop := fun H vs p => ∃ v, vs = [v] ∧ r H v p
def A2 {α β : Type} (r : Rl α) (s : Rl β) : Hp → List V → α × β → Prop := fun H vs p => ∃ v u, vs = [v, u] ∧ r H v p.1 ∧ s H u p.2
abbrev aTr : Rl (Option (List Int × Int)) := aO (aP (aT aI) aI)
def PreRow (p : (Rule × List (List Int)) × List Int × List (List Int × Bool)) : Prop := Gr p.1.1 p.1.2 ∧ p.2.1 ∈ p.1.2 ∧ ∃ y, Reach p.1.1 p.2.1 y ∧ y ∈ p.2.2.map (·.1)
def PostRow (p : (Rule × List (List Int)) × List Int × List (List Int × Bool)) (q : List Int × List Int) : Prop := Path p.1.1 p.2.1 q.1 q.2 ∧ q.2 ∈ p.2.2.map (·.1) ∧ q.1.length ≤ p.1.2.length
abbrev SpRow : Sp := SpP (A3 aG (aT aI) (aD aB)) PreRow (aP (aL aI) (aT aI)) PostRow
structure RSt (H0 : Hp) (sd l : Addr) (L : List (List Int)) (st : Trail) (H' : Hp) : Prop where
  s : Same H0 H'
  W : ∃ ws, H' l = some (.lst ws) ∧ Paired (aT aI H') ws L
  D : ∃ kvs, H' sd = some (.dT kvs) ∧ KvP aTr H' kvs st
theorem RSt.same {H0 : Hp} {sd l : Addr} {L : List (List Int)} {st : Trail} {H1 H2 : Hp} (e : Same H1 H2) (g : RSt H0 sd l L st H1) : RSt H0 sd l L st H2 := by
  obtain ⟨s, ⟨ws, l1, l2⟩, ⟨k2, d1, d2⟩⟩ := g
  exact ⟨s.trans e, ⟨ws, e _ _ l1, paired_same e l2⟩, ⟨k2, e _ _ d1, kvP_same e d2⟩⟩
theorem ed_some {α β : Type} {r : Rl α} {s : Rl β} {te : TE} {σ : L2.St} {H : Hp} {p : α × β} (h : Ed te σ H (aP r s) p) : Ed te σ H (aO (aP r s)) (some p) := fun H1 e Q q =>
  h H1 e Q fun v H2 e2 hv => q v H2 e2 ⟨hv, by obtain ⟨a, _, _, h1, _⟩ := hv; rw [h1]; exact fun z => nomatch z⟩
theorem ok_row_to (B : Bt mg) (d : Here K mg s_row_to "row_to" []) : Cl P w K mg base CX0 1 "row_to" ["graph", "crowd", "goals"] [] SpRow := by
  refine d.cl sc_row_to (fun _ _ _ _ _ _ us hl => match us, hl with | [_, _, _], _ => rfl) (fun _ _ _ _ ⟨_, ⟨_, _, _, h, _⟩, _⟩ => by rw [h]; rfl) (fun f cdv A outer s H vs Q E hr h => ?_)
  obtain ⟨⟨⟨ρ, ks⟩, c, gl⟩, ⟨v, u, w, rfl, hg, hc, hgo⟩, ⟨hG, hck, y, hy, hyg⟩, k⟩ := h
  have hu := hu_of hr
  refine ⟨_, (pss_cons (ps_set (i := 3) sc_row_to.nd rfl (by first | exact Or.inl rfl | exact Or.inr rfl) (pe_disp1 hu (pv 1) pe_non))
    (pss_cons (ps_set (i := 4) sc_row_to.nd rfl (by first | exact Or.inl rfl | exact Or.inr rfl) (pe_lst (pa_cons (pv 1) pa_nil)))
    (pss_cons (ps_set (i := 5) sc_row_to.nd rfl (by first | exact Or.inl rfl | exact Or.inr rfl) pe_int)
    (pss_cons (ps_while PassesOwn.never (pt_cmp (pc_dnotin hu (pe_ix ix_list (pv 4) (pv 5) (fun _ _ => rfl)) (pv 2)) (by rfl)) (pss_cons (ps_for PassesOwn.never rfl (pi_list (pe_dget hu (pv 0) (pe_ix ix_list (pv 4) (pv 5) (fun _ _ => rfl)) (fun _ _ => rfl))) (pg_tup rfl (pgs_cons (pg_name (i := 6) sc_row_to.nd rfl (by first | exact Or.inl rfl | exact Or.inr rfl)) (pgs_cons (pg_name (i := 7) sc_row_to.nd rfl (by first | exact Or.inl rfl | exact Or.inr rfl)) pgs_nil)))
    (pss_one (ps_if (pt_cmp (pc_dnotin hu (pv 7) (pv 3)) (by rfl)) (pss_cons (ps_dput hu (pv 3) (pv 7) (pe_tup (pa_cons (pe_ix ix_list (pv 4) (pv 5) (fun _ _ => rfl)) (pa_cons (pv 6) pa_nil))) rfl)
    (pss_one (ps_expr (pe_bm PySem.F.plainAttrs_list PySem.F.slot_list_append PySem.F.type_list_append mt_append (pv 4) (pa_cons (pv 7) pa_nil))))) pss_nil)))
    (pss_one (ps_set (i := 5) sc_row_to.nd rfl (by first | exact Or.inl rfl | exact Or.inr rfl) (pe_op op_add (pv 5) pe_int)))))
    (pss_cons (ps_set (i := 8) sc_row_to.nd rfl (by first | exact Or.inl rfl | exact Or.inr rfl) (pe_lst pa_nil))
    (pss_cons (ps_set (i := 9) sc_row_to.nd rfl (by first | exact Or.inl rfl | exact Or.inr rfl) (pe_ix ix_list (pv 4) (pv 5) (fun _ _ => rfl)))
    (pss_cons (ps_while PassesOwn.never (pt_cmpR op_notN (pe_dget hu (pv 3) (pv 9) (fun _ _ => rfl)) pe_non (nomark _)) (pss_cons (ps_asg (pe_dget hu (pv 3) (pv 9) (fun _ _ => rfl)) (pg_tup rfl (pgs_cons (pg_name (i := 9) sc_row_to.nd rfl (by first | exact Or.inl rfl | exact Or.inr rfl)) (pgs_cons (pg_name (i := 6) sc_row_to.nd rfl (by first | exact Or.inl rfl | exact Or.inr rfl)) pgs_nil))))
    (pss_one (ps_expr (pe_bm PySem.F.plainAttrs_list PySem.F.slot_list_append PySem.F.type_list_append mt_append (pv 8) (pa_cons (pv 6) pa_nil))))))
    (pss_one (ps_ret (pe_tup (pa_cons (pe_revL (pv 8)) (pa_cons (pe_ix ix_list (pv 4) (pv 5) (fun _ _ => rfl)) pa_nil)))))))))))), ?_⟩
  refine s_asgD (d_disp1 (s := aTr) (y := none) (ed_var rfl hc) ed_non) fun sd kvs H1 hd0 e1 hd hdp => ?_
  refine s_asgL (el_lst (eal_cons (ed_var rfl (Mo.mo e1 hc)) eal_nil) (by show 1 ≤ 100000; decide)) fun l ws H2 hl0 e2 hl hlp => ?_
  dsimp only
  refine s_asg ed_i fun v0 H3 e3 hv0 => ?_
  cases hv0
  have hld : l ≠ sd := fun z => by subst z; rw [hd] at hl0; cases hl0
  have hl0' : H l = none := e1.free hl0
  have bfsS : ∀ {n L}, Bfs ρ c n L → L.length ≤ ks.length := fun B => nodup_le B.nd fun x hx => hG.reach hck (B.re x hx)
  refine s_while (fun m σ' H' => ∃ n L st s6 s7 s8 s9, σ' = [some v, some u, some w, some (.ref sd), some (.ref l), some (.int ((n : Nat) : Int)), s6, s7, s8, s9] ∧ Bfs ρ c n L ∧ Tree ρ c st ∧ st.map (·.1) = L ∧ (∀ i x, i < n → L[i]? = some x → x ∉ gl.map (·.1)) ∧ m = ks.length - n ∧ RSt H sd l L st H') ks.length
    ⟨0, [c], [(c, none)], none, none, none, none, rfl, Bfs.start ρ c, .root, rfl, (fun i x h => absurd h (Nat.not_lt_zero _)), by omega, (e1.trans e2).trans e3, ⟨ws, e3 _ _ hl, paired_same e3 hlp⟩, ⟨kvs, e3 _ _ (e2 _ _ hd), kvP_same (e2.trans e3) hdp⟩⟩ ?_
  rintro m σ' H' ⟨n, L, st, s6, s7, s8, s9, rfl, Bf, Tr, hst, hno, rfl, G⟩
  have hn : n < L.length := by
    refine Nat.lt_of_not_le fun hle => ?_
    have : y ∈ L := (Bf.all hle y).mpr hy
    obtain ⟨i, hi⟩ := List.mem_iff_getElem?.mp this
    exact hno i y (Nat.lt_of_lt_of_le (List.getElem?_eq_some_iff.mp hi).1 hle) hi hyg
  have hx : L[n]? = some L[n] := List.getElem?_eq_getElem hn
  generalize hxe : L[n] = x at hx
  have hre := Bf.re _ (List.mem_of_getElem? hx)
  obtain ⟨sm, ⟨ws1, l1, l2⟩, ⟨k2, d1, d2⟩⟩ := id G
  refine ⟨!(look gl x).isSome, et_B (ed_notInD (ed_ixL (ed_own rfl l1 l2) (ed_var (r := aI) rfl rfl) (atI_nat hx)) (ed_var rfl (Mo.mo sm hgo))), fun hb H4 e4 => ?_, fun hb H4 e4 => ?_⟩
  · have hxg : x ∉ gl.map (·.1) := by
      have : (look gl x).isSome = false := by simpa using hb
      intro hm; rw [look_isSome_iff.mpr hm] at this; cases this
    have G1 := G.same e4
    obtain ⟨sm1, ⟨ws1, l1, l2⟩, ⟨k2, d1, d2⟩⟩ := id G1
    have hxk : x ∈ ks := hG.reach hck hre
    have hlk : look (graphB ρ ks) x = some (stepsB ρ x) := by rw [look_graph, if_pos hxk]
    have hBn := Bf.next hx
    have hAll : ∀ i, (addAll L ((stepsB ρ x).take i)).length ≤ ks.length := fun i => nodup_le (nodup_addAll Bf.nd) fun y hy => by
      rcases mem_addAll.mp hy with h | ⟨b, hb, rfl⟩
      · exact hG.reach hck (Bf.re y h)
      · exact hG.cl _ hxk _ (List.mem_of_mem_take hb)
    have hks9 : ks.length ≤ 90000 := hG.few
    refine s_forH (H0 := H) (r := aP aI (aT aI)) (ed_ixD (s := aAt aSt H) (g := graphB ρ ks) (ed_var rfl (aU.d (aU.at sm1 hg))) (ed_ixL (ed_own rfl l1 l2) (ed_var (r := aI) rfl rfl) (atI_nat hx)) hlk)
      (fun i σ' H' => ∃ st' s6 s7, σ' = [some v, some u, some w, some (.ref sd), some (.ref l), some (.int ((n : Nat) : Int)), s6, s7, s8, s9] ∧ Tree ρ c st' ∧ st'.map (·.1) = addAll L ((stepsB ρ x).take i) ∧ RSt H sd l (addAll L ((stepsB ρ x).take i)) st' H')
      (fun H5 e5 => ⟨st, s6, s7, rfl, Tr, hst, G1.same e5⟩) (fun i σ' H' ⟨_, _, _, _, _, _, h⟩ => h.s) ?_ ?_
    · rintro i b bv σ' H5 hbi ⟨st', s6, s7, rfl, Tr', hst', G2⟩ hbv
      refine tg2 hbv fun v1 v2 h1 h2 => ?_
      obtain ⟨sm2, ⟨ws2, l12, l22⟩, ⟨k22, d12, d22⟩⟩ := id G2
      have hadd : addAll L ((stepsB ρ x).take (i + 1)) = addL (addAll L ((stepsB ρ x).take i)) b := addAll_take hbi
      have hbm : b ∈ stepsB ρ x := List.mem_of_getElem? hbi
      refine s_if (b := !(look st' b.2).isSome) (et_B (ed_notInD (ed_var rfl h2) (ed_ownD rfl d12 d22))) (fun hb H6 e6 => ?_) (fun hb H6 e6 => ?_)
      · have hln : look st' b.2 = none := by simpa using hb
        have hnm : b.2 ∉ st'.map (·.1) := look_none_iff.mp hln
        have hnm' : b.2 ∉ addAll L ((stepsB ρ x).take i) := by rw [← hst']; exact hnm
        obtain ⟨t, ht⟩ := pre_addAll ((stepsB ρ x).take i) L
        have hx' : (addAll L ((stepsB ρ x).take i))[n]? = some x := by rw [ht, List.getElem?_append_left hn]; exact hx
        have hlw := l22.length
        have hld2 := d22.length
        have hAi := hAll i
        have hsl : st'.length = (addAll L ((stepsB ρ x).take i)).length := by rw [← hst', List.length_map]
        refine s_putD (r := aTr) (x := some (x, b.1)) (e6 _ _ d12) (ed_some (ed_pair (ed_ixL (ed_own rfl (e6 _ _ l12) (paired_same e6 l22)) (ed_var (r := aI) rfl rfl) (atI_nat hx')) (ed_var rfl (Mo.mo e6 h1)))) (ed_ref rfl) (ed_var rfl (Mo.mo e6 h2)) (by omega) fun bw H7 e7 hbw => ?_
        have d17 := e7 _ _ (e6 _ _ d12)
        have l17 := e7 _ _ (e6 _ _ l12)
        have hd2 := kvP_same (e6.trans e7) d22
        rw [putK_snoc bw hd2 hln]
        refine s_app (by rw [upd_ne hld]; exact l17) (ed_ref rfl) (ed_var rfl (Im.upD d17 (Mo.mo (e6.trans e7) h2))) (by omega) fun yv H8 e8 hyv => ?_
        have d18 := e8 _ _ (upd_same (H := H7) (a := sd))
        have l18 : H8 l = some (.lst ws2) := e8 _ _ (by rw [upd_ne hld]; exact l17)
        have ts : TSm H7 (upd H8 l (.lst (ws2 ++ [yv]))) := (TSm.upD d17).trans ((TSm.of e8).trans (TSm.upL l18))
        refine ⟨st' ++ [(b.2, some (x, b.1))], _, _, rfl, .add Tr' (by rw [hst']; exact List.mem_of_getElem? hx') hbm hnm, ?_, Same.mut ((Same.mut ((sm2.trans e6).trans e7) hd0).trans e8) hl0', ⟨_, upd_same, ?_⟩, ⟨_, by rw [upd_ne (Ne.symm hld)]; exact d18, ?_⟩⟩
        · rw [hadd]; unfold addL; rw [if_neg hnm', List.map_append, hst']; rfl
        · rw [hadd]; unfold addL; rw [if_neg hnm']
          exact Paired.snoc (paired_ts ((TSm.of (e6.trans e7)).trans ts) l22) (Im.upL l18 hyv)
        · exact KvP.snoc (kvP_ts ts hd2) (Im.ts ts hbw)
      · have hm : b.2 ∈ addAll L ((stepsB ρ x).take i) := by
          rw [← hst']
          have : (look st' b.2).isSome = true := by simpa using hb
          exact look_isSome_iff.mp this
        refine ⟨st', _, _, rfl, Tr', ?_, ?_⟩
        · rw [hadd]; unfold addL; rw [if_pos hm]; exact hst'
        · rw [hadd]; unfold addL; rw [if_pos hm]; exact G2.same e6
    · rintro σ' H5 ⟨st', s6, s7, rfl, Tr', hst', G2⟩
      rw [List.take_length] at hst' G2
      dsimp only
      refine s_asg (ed_add (ed_var (r := aI) rfl rfl) ed_i) fun av H6 e6 hav => ?_
      cases hav
      refine ⟨ks.length - (n + 1), ?_, n + 1, addAll L (stepsB ρ x), st', s6, s7, s8, s9, rfl, hBn, Tr', hst', fun i z hi hz => ?_, rfl, G2.same e6⟩
      · have := bfsS Bf; omega
      · obtain ⟨t, ht⟩ := pre_addAll (stepsB ρ x) L
        rw [ht, List.getElem?_append_left (by omega)] at hz
        by_cases e : i = n
        · subst e; rw [hx] at hz; cases hz; exact hxg
        · exact hno i z (by omega) hz
  · have hxg : x ∈ gl.map (·.1) := by
      have : (look gl x).isSome = true := by simpa using hb
      exact look_isSome_iff.mp this
    have G1 := G.same e4
    refine s_asgL (r := aI) el_nil fun nl ns0 H5 hn0 e5 hnl hnp => ?_
    cases hnp
    have G2 := G1.same e5
    obtain ⟨sm2, ⟨ws1, l1, l2⟩, ⟨k2, d1, d2⟩⟩ := id G2
    refine s_asg (ed_ixL (ed_own rfl l1 l2) (ed_var (r := aI) rfl rfl) (atI_nat hx)) fun hv H6 e6 hhv => ?_
    obtain ⟨ns, hbk, hbl⟩ := Tr.back x (by rw [hst]; exact List.mem_of_getElem? hx)
    have hns : ns.length < ks.length := by
      have h1 := bfsS Bf
      have h2 : st.length = L.length := by rw [← hst, List.length_map]
      omega
    have hks9 : ks.length ≤ 90000 := hG.few
    have hnH : H nl = none := (sm.trans e4).free hn0
    have hnsd : nl ≠ sd := fun z => by subst z; rw [e4 _ _ (by assumption)] at hn0; cases hn0
    have hnll : nl ≠ l := fun z => by subst z; rw [e4 _ _ (by assumption)] at hn0; cases hn0
    refine s_while (fun m σ' H' => ∃ hv hc rest done s6 s7, σ' = [some v, some u, some w, some (.ref sd), some (.ref l), some (.int ((n : Nat) : Int)), s6, s7, some (.ref nl), some hv] ∧ aT aI H' hv hc ∧ Back ρ c st hc rest ∧ done ++ rest = ns ∧ m = rest.length ∧ RSt H sd l L st H' ∧ H' nl = some (.lst (done.map V.int))) ns.length
      ⟨hv, x, ns, [], s6, s7, rfl, hhv, hbk, rfl, rfl, G2.same e6, e6 _ _ hnl⟩ ?_
    rintro m σ' H7 ⟨hv, hc, rest, done, s6, s7, rfl, hhc, hbk, hdr, rfl, G3, hnum⟩
    obtain ⟨sm3, ⟨ws3, l13, l23⟩, ⟨k3, d13, d23⟩⟩ := id G3
    cases hbk with
    | nil hl0 =>
      refine ⟨false, et_is (et_test (ed_notN (o := none) (ed_ixD (ed_ownD rfl d13 d23) (ed_var rfl hhc) hl0))) rfl, (fun z => nomatch z), fun _ H8 e8 => ?_⟩
      have G4 := G3.same e8
      obtain ⟨sm4, ⟨ws4, l14, l24⟩, ⟨k4, d14, d24⟩⟩ := id G4
      refine s_ret (ed_pair (ed_revL (ed_own rfl (e8 _ _ hnum) (int_paired _ done))) (ed_ixL (ed_own rfl l14 l24) (ed_var (r := aI) rfl rfl) (atI_nat hx))) fun rv H9 e9 hrv => k rv H9 _ (sm4.trans e9) hrv ?_
      obtain ⟨nn, hbk', hbl'⟩ := Tr.back x (by rw [hst]; exact List.mem_of_getElem? hx)
      rw [List.append_nil] at hdr
      subst hdr
      exact ⟨‹Back ρ c st x done›.path, hxg, by show done.reverse.length ≤ ks.length; rw [List.length_reverse]; omega⟩
    | @cons _ p kn rest hl1 hb1 hbk1 =>
      refine ⟨true, et_is (et_test (ed_notN (o := some (p, kn)) (ed_ixD (ed_ownD rfl d13 d23) (ed_var rfl hhc) hl1))) rfl, fun _ H8 e8 => ?_, fun z => nomatch z⟩
      have G4 := G3.same e8
      obtain ⟨sm4, ⟨ws4, l14, l24⟩, ⟨k4, d14, d24⟩⟩ := id G4
      refine (ed_ixD (s := aTr) (ed_ownD (i := 3) rfl d14 d24) (ed_var (i := 9) rfl (Mo.mo e8 hhc)) hl1) H8 (Same.refl _) _ fun pv H9 e9 hpv => ?_
      refine tg2 hpv.1 fun v1 v2 h1 h2 => ?_
      have hnum9 := e9 _ _ (e8 _ _ hnum)
      have hdl : done.length + (rest.length + 1) = ns.length := by rw [← hdr]; simp
      refine s_app hnum9 (ed_ref rfl) (ed_var rfl h2) (by rw [List.length_map]; omega) fun nv H10 e10 hnv => ?_
      cases hnv
      have G5 := G4.same (e9.trans e10)
      obtain ⟨sm5, ⟨ws5, l15, l25⟩, ⟨k5, d15, d25⟩⟩ := id G5
      have hn10 := e10 _ _ hnum9
      refine ⟨rest.length, Nat.lt_succ_self _, v1, p, rest, done ++ [kn], _, _, rfl, Im.upL hn10 (Mo.mo e10 h1), hbk1, by rw [← hdr]; simp, rfl, ⟨Same.mut sm5 hnH, ⟨ws5, by rw [upd_ne (Ne.symm hnll)]; exact l15, Paired.imp l25 fun _ _ q => Im.upL hn10 q⟩, ⟨k5, by rw [upd_ne (Ne.symm hnsd)]; exact d15, kvP_ts (TSm.upL hn10) d25⟩⟩, by rw [upd_same, List.map_append]; rfl⟩
end
end Pg

set_option Elab.async false
set_option linter.all false
set_option maxRecDepth 100000
set_option maxHeartbeats 4000000
namespace Pg
open PySem PySem.Spec PyProof.Rows L2 Pf
section
variable {α β γ δ ε : Type} {K : PySem.W.Frag} {σ : L2.St} {H : Hp} {ta tb tc td te : TE} {r : Rl α} {s : Rl β} {t : Rl γ} {q : Rl δ} {x : α} {y : β} {z : γ} {z' : δ}
theorem ed_v {v : V} [Ms r] (h : r H v x) : Ed (tC v) σ H r x := fun H1 e _ k => k v H1 (Same.refl H1) (Mo.mo e h)
theorem EdA.mono {R R' : Hp → List V → Prop} {tr : TA} (h : EdA tr σ H R) (f : ∀ H' vs, R H' vs → R' H' vs) : EdA tr σ H R' := fun H1 e Q k => h H1 e Q fun vs H2 e2 hv => k vs H2 e2 (f _ _ hv)
theorem eA1 [Ms r] (h : Ed ta σ H r x) : EdA (tCons ta tNil) σ H (fun H' vs => A1 r H' (vs ++ []) x) := EdA.mono (ea1 h) fun H' vs ⟨v, e, h1⟩ => ⟨v, by rw [e]; rfl, h1⟩
theorem eA2 [Ms r] [Ms s] (h : Ed ta σ H r x) (h' : Ed tb σ H s y) : EdA (tCons ta (tCons tb tNil)) σ H (fun H' vs => A2 r s H' (vs ++ []) (x, y)) := EdA.mono (ea2 h h') fun H' vs ⟨v, u, e, h1, h2⟩ => ⟨v, u, by rw [e]; rfl, h1, h2⟩
theorem eA3 [Ms r] [Ms s] [Ms t] (h : Ed ta σ H r x) (h' : Ed tb σ H s y) (h'' : Ed tc σ H t z) : EdA (tCons ta (tCons tb (tCons tc tNil))) σ H (fun H' vs => A3 r s t H' (vs ++ []) (x, y, z)) := EdA.mono (ea3 h h' h'') fun H' vs ⟨v, u, w, e, h1, h2, h3⟩ => ⟨v, u, w, by rw [e]; rfl, h1, h2, h3⟩
theorem eA3d [Ms r] [Ms s] {d : V} (hd : ∀ H', t H' d z) (h : Ed ta σ H r x) (h' : Ed tb σ H s y) : EdA (tCons ta (tCons tb tNil)) σ H (fun H' vs => A3 r s t H' (vs ++ [d]) (x, y, z)) := EdA.mono (ea2 h h') fun H' vs ⟨v, u, e, h1, h2⟩ => ⟨v, u, d, by rw [e]; rfl, h1, h2, hd _⟩
theorem eA4 [Ms r] [Ms s] [Ms t] [Ms q] (h : Ed ta σ H r x) (h' : Ed tb σ H s y) (h'' : Ed tc σ H t z) (h3 : Ed td σ H q z') : EdA (tCons ta (tCons tb (tCons tc (tCons td tNil)))) σ H (fun H' vs => A4 r s t q H' (vs ++ []) (x, y, z, z')) := EdA.mono (ea4 h h' h'' h3) fun H' vs ⟨v, u, w, w', e, h1, h2, h3, h4⟩ => ⟨v, u, w, w', by rw [e]; rfl, h1, h2, h3, h4⟩
theorem eA4d [Ms r] [Ms s] [Ms t] {d : V} (hd : ∀ H', q H' d z') (h : Ed ta σ H r x) (h' : Ed tb σ H s y) (h'' : Ed tc σ H t z) : EdA (tCons ta (tCons tb (tCons tc tNil))) σ H (fun H' vs => A4 r s t q H' (vs ++ [d]) (x, y, z, z')) := EdA.mono (ea3 h h' h'') fun H' vs ⟨v, u, w, e, h1, h2, h3⟩ => ⟨v, u, w, d, by rw [e]; rfl, h1, h2, h3, hd _⟩
variable {A : Hp → List V → ε → Prop} {pre ok : ε → Prop} {post : ε → γ → Prop} {C : Addr} {dvs : List V} {W : L2.St → XK} {E : XK} {tr : TA} {p : ε}
theorem ed_callX (h : EdA tr σ H (fun H' vs => A H' (vs ++ dvs) p)) (hp : pre p) (ho : ok p) : Ed (tCallSD (SpX A pre ok t post C) dvs W tr) σ H (aE t (post p)) () := fun H1 e Q k =>
  h H1 e _ fun vs H2 e2 hv => ⟨p, hv, hp, fun _ w H' y e3 hy hpo => k w H' (e2.trans e3) ⟨y, hy, hpo⟩, fun hn => absurd ho hn⟩
theorem ed_callP (h : EdA tr σ H (fun H' vs => A H' (vs ++ dvs) p)) (hp : pre p) : Ed (tCall (SpP A pre t post) dvs E tr) σ H (aE t (post p)) () := fun H1 e Q k =>
  h H1 e _ fun vs H2 e2 hv => ⟨p, hv, hp, fun w H' y e3 hy hpo => k w H' (e2.trans e3) ⟨y, hy, hpo⟩⟩
/-- an expression that leaves -/
def Ex (te : TE) (σ : L2.St) (H : Hp) : Prop := ∀ H1, Same H H1 → ∀ Q, te σ H1 Q
def ExA (ta : TA) (σ : L2.St) (H : Hp) : Prop := ∀ H1, Same H H1 → ∀ Q, ta σ H1 Q
theorem ex_callX (h : EdA tr σ H (fun H' vs => A H' (vs ++ dvs) p)) (hp : pre p) (ho : ¬ ok p) (he : ∀ H1, Same H H1 → W σ (.ref C) none H1) : Ex (tCallSD (SpX A pre ok t post C) dvs W tr) σ H := fun H1 e Q =>
  h H1 e _ fun vs H2 e2 hv => ⟨p, hv, hp, fun hy => absurd hy ho, fun _ H' e3 => he H' ((e.trans e2).trans e3)⟩
theorem exa_1 (h : Ex te σ H) : ExA (tCons te tr) σ H := fun H1 e Q => h H1 e _
theorem ex_cb {rr : List V → Hp → VK → Prop} (h : ExA tr σ H) : Ex (tCB rr tr) σ H := fun H1 e Q => h H1 e _
theorem ex_op {f : R2} (h : Ex te σ H) : Ex (tOp f te tb) σ H := fun H1 e Q => h H1 e _
theorem s_xret {D : Ends} (h : Ex te σ H) : tRet te D σ H := h H (Same.refl _) _
theorem s_xasg {D : Ends} {g : TG} (h : Ex te σ H) : tAsg te g D σ H := h H (Same.refl _) _
theorem ed_toE {post : γ → Prop} (h : Ed te σ H t z) (hp : post z) : Ed te σ H (aE t post) () := fun H1 e Q k => h H1 e Q fun v H2 e2 hv => k v H2 e2 ⟨z, hv, hp⟩
/-- a call of a built-in on what a call gives -/
theorem ed_cbE {rr : List V → Hp → VK → Prop} {post : α → Prop} {post2 : β → Prop} [Ms r] (h : Ed te σ H (aE r post) ()) (f : ∀ y te' H', Same H H' → post y → Ed te' σ H' r y → Ed (tCB rr (tCons te' tNil)) σ H' (aE s post2) ()) : Ed (tCB rr (tCons te tNil)) σ H (aE s post2) () := fun H1 e Q k =>
  h H1 e _ fun v H2 e2 ⟨y, hy, hp⟩ => (f y (tC v) H2 (e.trans e2) hp (ed_v hy)) H2 (Same.refl _) Q fun u H3 e3 hu => k u H3 (e2.trans e3) hu
theorem ed_ix0E {post : α × β → Prop} (h : Ed te σ H (aE (aP r s) post) ()) : Ed (tOp (rIxT K) te (tC (.int 0))) σ H (aE r fun x => ∃ y, post (x, y)) () := fun H1 e Q k =>
  h H1 e _ fun v H2 e2 ⟨⟨x, y⟩, ⟨a, x1, y1, h1, h2, h3, h4⟩, hp⟩ => ⟨a, _, 0, x1, h1, rfl, SqT.of h2, rfl, k x1 H2 e2 ⟨x, h3, y, hp⟩⟩
end
section
variable {P : Program} {w : World} {K : PySem.W.Frag} {mg : Str → Option Value} {base : Heap}
theorem KeysG.gr {ρ : Rule} {c : List Int} {ks : List (List Int)} (h : KeysG ρ c ks) (hp : PreG (ρ, c, l)) : Gr ρ ks := by
  obtain ⟨_, S, hS, h9⟩ := hp
  exact h.1.gr (by rw [comes_len h.1 hS]; exact h9)
theorem graph_keys (ρ : Rule) : ∀ ks : List (List Int), (graphB ρ ks).map (·.1) = ks
  | [] => rfl
  | x :: ks => by
    have := graph_keys ρ ks
    unfold graphB at this ⊢
    simp only [List.map_cons] at this ⊢
    rw [this]
def PreC (p : Rule × List Int × Int) : Prop := PreG p ∧ p.2.1 ≠ []
def PostC (p : Rule × List Int × Int) (xs : List (List Int)) : Prop := ∃ ks, KeysG p.1 p.2.1 ks ∧ xs = sortC ks
abbrev SpCome (C : Addr) : Sp := SpX (A3 aR (aT aI) aI) PreC OkG (aL (aT aI)) PostC C
theorem ne_reach {ρ : Rule} {c x : List Int} (hc : c ≠ []) (h : Reach ρ c x) : x ≠ [] := by
  intro e
  have := reach_length h
  rw [e] at this
  exact hc (List.eq_nil_of_length_eq_zero this.symm)
theorem ok_come (B : Bt mg) {C : Addr} (c_graph_of : Cl P w K mg base (L2.CX P w) 4 "graph_of" ["rule", "crowd", "limit"] [] (SpGr C)) (d : Here K mg s_come "come" [.int 1000]) :
    Cl P w K mg base (L2.CX P w) 5 "come" ["rule", "crowd", "limit"] [] (SpCome C) ∧ Cl P w K mg base (L2.CX P w) 5 "come" ["rule", "crowd", "limit"] [.int 1000] (SpCome C) := by
  refine d.clXd sc_come 2 rfl (fun _ _ _ _ _ _ _ us its h1 h2 => match us, its, h1, h2 with | [_, _], [_], _, _ => ⟨_, rfl, rfl⟩) (fun _ _ _ _ _ _ _ us its h1 h2 => match us, its, h1, h2 with | [_, _, _], [_], _, _ => ⟨_, rfl, rfl⟩) (fun _ _ _ _ ⟨_, ⟨_, _, _, h, _⟩, _⟩ => by rw [h]; rfl) (fun f cdv A outer s H vs Q E hr h => ?_)
  obtain ⟨⟨ρ, c, lim⟩, ⟨v, u, w, rfl, hρ, hc, hw⟩, ⟨hp, hne⟩, kt, kf⟩ := h
  have hu := hu_of hr
  refine ⟨_, (pss_one (ps_ret (pe_callB (cr_sortedD hr.units rfl) (by rfl) B.sorted (by decide +kernel) (pa_cons (pe_clS c_graph_of (hr.mono (by decide)) (by rfl) (fun σ => passAt (W := wE E) (takes_of rfl rfl rfl rfl) σ) (pa_cons (pv 0) (pa_cons (pv 1) (pa_cons (pv 2) pa_nil)))) pa_nil)))), ?_⟩
  by_cases ho : OkG (ρ, c, lim)
  · refine s_ret (ed_cbE (ed_callX (eA3 (ed_var rfl hρ) (ed_var rfl hc) (ed_var rfl hw)) hp ho) fun g te' H' e ⟨ks, hg, hk⟩ h => ed_toE (post := PostC (ρ, c, lim)) ((el_sortedD (gr := g) (fun H1 e1 Q q => h H1 e1 Q fun v H2 e2 hv => q v H2 e2 (aU.d hv)) ?_).ed) ?_) fun rv H1 e ⟨xs, hx, hpx⟩ => kt ho rv H1 xs e hx hpx
    · intro p hp'
      rw [hg] at hp'
      obtain ⟨z, hz, rfl⟩ := List.mem_map.mp hp'
      exact ne_reach hne ((hk.1.2 z).mp hz)
    · refine ⟨ks, hk, ?_⟩
      rw [hg, graph_keys]
  · exact s_xret (ex_cb (exa_1 (ex_callX (eA3 (ed_var rfl hρ) (ed_var rfl hc) (ed_var rfl hw)) hp ho fun H1 e => kf ho H1 e)))
def PreW (p : Rule × List Int × List Int × Int) : Prop := PreG (p.1, p.2.1, p.2.2.2)
def OkW (p : Rule × List Int × List Int × Int) : Prop := OkG (p.1, p.2.1, p.2.2.2)
def PostW (p : Rule × List Int × List Int × Int) (o : Option (List Int)) : Prop := (o = none ∧ ¬ Reach p.1 p.2.1 p.2.2.1) ∨ ∃ ns, o = some ns ∧ Path p.1 p.2.1 ns p.2.2.1
abbrev SpWay (C : Addr) : Sp := SpX (A4 aR (aT aI) (aT aI) aI) PreW OkW (aO (aL aI)) PostW C
theorem ok_way_to (B : Bt mg) {C : Addr} (c_graph_of : Cl P w K mg base (L2.CX P w) 4 "graph_of" ["rule", "crowd", "limit"] [] (SpGr C)) (c_row_to : Cl P w K mg base CX0 1 "row_to" ["graph", "crowd", "goals"] [] SpRow) (d : Here K mg s_way_to "way_to" [.int 1000]) :
    Cl P w K mg base (L2.CX P w) 5 "way_to" ["rule", "crowd", "goal", "limit"] [] (SpWay C) ∧ Cl P w K mg base (L2.CX P w) 5 "way_to" ["rule", "crowd", "goal", "limit"] [.int 1000] (SpWay C) := by
  refine d.clXd sc_way_to 3 rfl (fun _ _ _ _ _ _ _ us its h1 h2 => match us, its, h1, h2 with | [_, _, _], [_], _, _ => ⟨_, rfl, rfl⟩) (fun _ _ _ _ _ _ _ us its h1 h2 => match us, its, h1, h2 with | [_, _, _, _], [_], _, _ => ⟨_, rfl, rfl⟩) (fun _ _ _ _ ⟨_, ⟨_, _, _, _, h, _⟩, _⟩ => by rw [h]; rfl) (fun f cdv A outer s H vs Q E hr h => ?_)
  obtain ⟨⟨ρ, c, gl, lim⟩, ⟨v, u, v3, w, rfl, hρ, hc, hgl, hw⟩, hp, kt, kf⟩ := h
  have hu := hu_of hr
  refine ⟨_, (pss_cons (ps_set (i := 4) sc_way_to.nd rfl (by first | exact Or.inl rfl | exact Or.inr rfl) (pe_clS c_graph_of (hr.mono (by decide)) (by rfl) (fun σ => passAt (W := wE E) (takes_of rfl rfl rfl rfl) σ) (pa_cons (pv 0) (pa_cons (pv 1) (pa_cons (pv 3) pa_nil)))))
    (pss_cons (ps_if (pt_cmp (pc_dnotin hu (pv 2) (pv 4)) (by rfl)) (pss_one (ps_ret pe_non)) pss_nil)
    (pss_one (ps_ret (pe_ix ix_tup (pe_cl c_row_to (hr.mono (by decide)) (by rfl) pass0 (pa_cons (pv 4) (pa_cons (pv 1) (pa_cons (pe_disp1 hu (pv 2) pe_bl) pa_nil)))) pe_int (fun _ _ => rfl)))))), ?_⟩
  by_cases ho : OkG (ρ, c, lim)
  · refine s_asg (ed_callX (eA3 (ed_var rfl hρ) (ed_var rfl hc) (ed_var rfl hw)) hp ho) fun gv H1 e ⟨g, hgv, ks, hg, hk⟩ => ?_
    have hG := hk.gr hp
    dsimp only
    refine s_if (b := !(look g gl).isSome) (et_B (ed_notInD (ed_var rfl (Mo.mo e hgl)) (ed_var rfl (aU.d hgv)))) (fun hb H2 e2 => ?_) (fun hb H2 e2 => ?_)
    · refine s_ret (r := aO (aL aI)) (x := none) ed_non fun rv H3 e3 hrv => kt ho rv H3 none ((e.trans e2).trans e3) hrv (Or.inl ⟨rfl, fun hre => ?_⟩)
      have : gl ∈ ks := (hk.1.2 gl).mpr hre
      rw [hg] at hb
      rw [look_graph, if_pos this] at hb
      cases hb
    · have hgk : gl ∈ ks := by
        rw [hg] at hb
        rw [look_graph] at hb
        by_cases h : gl ∈ ks
        · exact h
        · rw [if_neg h] at hb; cases hb
      have hre := (hk.1.2 gl).mp hgk
      have ee := e.trans e2
      refine s_ret (ed_ix0E (ed_callP (p := ((ρ, ks), c, [(gl, true)])) (eA3 (r := aG) (ed_var rfl (by rw [hg] at hgv; exact Mo.mo (r := aG) (x := (ρ, ks)) e2 hgv)) (ed_var rfl (Mo.mo ee hc)) (fun H1 e1 Q q => (EdD.ed (s := aB) (d_disp1 (ed_var rfl (Mo.mo ee hgl)) ed_b)) H1 e1 Q fun v H2 e2 hv => q v H2 e2 (aU.d hv))) ⟨hG, (hk.1.2 c).mpr .refl, gl, hre, List.mem_singleton.mpr rfl⟩)) fun rv H3 e3 ⟨ns, hns, y, h1, h2, _⟩ => ?_
      have : y = gl := List.mem_singleton.mp h2
      subst this
      refine kt ho rv H3 (some ns) (ee.trans e3) ⟨hns, ?_⟩ (Or.inr ⟨ns, rfl, h1⟩)
      obtain ⟨a, _, h5, _⟩ := hns
      rw [h5]; exact fun z => nomatch z
  · exact s_xasg (ex_callX (eA3 (ed_var rfl hρ) (ed_var rfl hc) (ed_var rfl hw)) hp ho fun H1 e => kf ho H1 e)
end
end Pg

set_option Elab.async false
set_option linter.all false
set_option maxRecDepth 100000
set_option maxHeartbeats 4000000
namespace Pg
open PySem PySem.Spec PyProof.Rows L2 Pf
inductive ReachG (f : List Int → List (Int × List Int)) (cs : List (List Int)) : List Int → Prop
  | base {x : List Int} : x ∈ cs → ReachG f cs x
  | step {x : List Int} {b : Int × List Int} : ReachG f cs x → b ∈ f x → ReachG f cs b.2
structure BfsG (f : List Int → List (Int × List Int)) (cs : List (List Int)) (n : Nat) (L : List (List Int)) : Prop where
  nd : L.Nodup
  hd : ∃ t, L = cs ++ t
  le : n ≤ L.length
  re : ∀ x ∈ L, ReachG f cs x
  cl : ∀ i x, i < n → L[i]? = some x → ∀ b ∈ f x, b.2 ∈ L
theorem BfsG.start {f : List Int → List (Int × List Int)} {cs : List (List Int)} (h : cs.Nodup) : BfsG f cs 0 cs := ⟨h, ⟨[], by simp⟩, Nat.zero_le _, fun x hx => .base hx, fun i x h => by omega⟩
theorem BfsG.next {f : List Int → List (Int × List Int)} {cs : List (List Int)} {n : Nat} {L : List (List Int)} {x : List Int} (B : BfsG f cs n L) (hx : L[n]? = some x) : BfsG f cs (n + 1) (addAll L (f x)) := by
  obtain ⟨t, ht⟩ := pre_addAll (f x) L
  have hn : n < L.length := (List.getElem?_eq_some_iff.mp hx).1
  refine ⟨nodup_addAll B.nd, ?_, ?_, fun y hy => ?_, fun i y hi hy b hb => ?_⟩
  · obtain ⟨u, hu⟩ := B.hd
    exact ⟨u ++ t, by rw [ht, hu, List.append_assoc]⟩
  · rw [ht, List.length_append]; omega
  · rcases mem_addAll.mp hy with h | ⟨b, hb, rfl⟩
    · exact B.re y h
    · exact .step (B.re x (List.mem_of_getElem? hx)) hb
  · have hy' : L[i]? = some y := by
      rw [ht, List.getElem?_append_left (by omega)] at hy; exact hy
    by_cases e : i = n
    · subst e
      rw [hx] at hy'; cases hy'
      exact mem_addAll.mpr (Or.inr ⟨b, hb, rfl⟩)
    · exact mem_addAll.mpr (Or.inl (B.cl i y (by omega) hy' b hb))
theorem BfsG.all {f : List Int → List (Int × List Int)} {cs : List (List Int)} {n : Nat} {L : List (List Int)} (B : BfsG f cs n L) (h : L.length ≤ n) (x : List Int) : x ∈ L ↔ ReachG f cs x := by
  refine ⟨B.re x, fun r => ?_⟩
  induction r with
  | base hx => obtain ⟨t, ht⟩ := B.hd; rw [ht]; exact List.mem_append_left _ hx
  | step _ hb ih =>
    obtain ⟨i, hi⟩ := List.mem_iff_getElem?.mp ih
    exact B.cl i _ (Nat.lt_of_lt_of_le (List.getElem?_eq_some_iff.mp hi).1 h) hi _ hb
/-- who leads to y, of xs -/
def leadOne (ρ : Rule) (y x : List Int) (bs : List (Int × List Int)) : List (List Int) := (bs.filter fun b => decide (b.2 = y)).map fun _ => x
def aheadOf (ρ : Rule) (xs : List (List Int)) (y : List Int) : List (List Int) := xs.flatMap fun x => leadOne ρ y x (stepsB ρ x)
theorem mem_ahead {ρ : Rule} {xs : List (List Int)} {y z : List Int} : z ∈ aheadOf ρ xs y ↔ z ∈ xs ∧ ∃ b ∈ stepsB ρ z, b.2 = y := by
  unfold aheadOf leadOne
  simp only [List.mem_flatMap, List.mem_map, List.mem_filter, decide_eq_true_eq]
  constructor
  · rintro ⟨a, ha, b, ⟨h1, h2⟩, rfl⟩
    exact ⟨ha, b, h1, h2⟩
  · rintro ⟨ha, b, h1, h2⟩
    exact ⟨z, ha, b, ⟨h1, h2⟩, rfl⟩
theorem leadOne_len (ρ : Rule) (y x : List Int) (bs : List (Int × List Int)) : (leadOne ρ y x bs).length ≤ bs.length := by
  unfold leadOne; rw [List.length_map]; exact List.length_filter_le _ _
theorem stepsB_len (ρ : Rule) (x : List Int) : (stepsB ρ x).length ≤ ρ.meets.length := by
  unfold stepsB; rw [List.length_map]; exact canB_length _ _
theorem aheadOf_len (ρ : Rule) (y : List Int) : ∀ xs : List (List Int), (aheadOf ρ xs y).length ≤ xs.length * ρ.meets.length
  | [] => by simp [aheadOf]
  | x :: xs => by
    have h1 := aheadOf_len ρ y xs
    have h2 := leadOne_len ρ y x (stepsB ρ x)
    have h3 := stepsB_len ρ x
    show ((leadOne ρ y x (stepsB ρ x)) ++ aheadOf ρ xs y).length ≤ (xs.length + 1) * ρ.meets.length
    rw [List.length_append, Nat.add_mul]; omega
theorem leadOne_snoc {ρ : Rule} {y x : List Int} {bs : List (Int × List Int)} {i : Nat} {b : Int × List Int} (h : bs[i]? = some b) : leadOne ρ y x (bs.take (i + 1)) = if b.2 = y then leadOne ρ y x (bs.take i) ++ [x] else leadOne ρ y x (bs.take i) := by
  have e : bs.take (i + 1) = bs.take i ++ [b] := by rw [List.take_succ, h]; rfl
  unfold leadOne
  rw [e, List.filter_append, List.map_append]
  by_cases hb : b.2 = y
  · simp [hb]
  · simp [hb]
theorem aheadOf_snoc {ρ : Rule} {xs : List (List Int)} {n : Nat} {x : List Int} (h : xs[n]? = some x) (y : List Int) : aheadOf ρ (xs.take (n + 1)) y = aheadOf ρ (xs.take n) y ++ leadOne ρ y x (stepsB ρ x) := by
  have e : xs.take (n + 1) = xs.take n ++ [x] := by rw [List.take_succ, h]; rfl
  unfold aheadOf
  rw [e, List.flatMap_append]; simp
section
variable {P : Program} {w : World} {K : PySem.W.Frag} {mg : Str → Option Value} {base : Heap}
/-- a dict of lists of crowds, each its own -/
structure Ah (H : Hp) (ad : Addr) (ks : List (List Int)) (as : List Addr) (A : List Int → List (List Int)) : Prop where
  d : ∃ kvs, H ad = some (.dT kvs) ∧ KvP aA H kvs (ks.zip as)
  len : as.length = ks.length
  nd : as.Nodup
  ls : ∀ (i : Nat) (x : List Int) (a : Addr), ks[i]? = some x → as[i]? = some a → ∃ vs, H a = some (.lst vs) ∧ Paired (aT aI H) vs (A x)
theorem Ah.same {H H' : Hp} {ad : Addr} {ks : List (List Int)} {as : List Addr} {A : List Int → List (List Int)} (e : Same H H') (h : Ah H ad ks as A) : Ah H' ad ks as A := by
  obtain ⟨⟨kvs, h1, h2⟩, h3, h4, h5⟩ := h
  refine ⟨⟨kvs, e _ _ h1, kvP_same e h2⟩, h3, h4, fun i x a hx ha => ?_⟩
  obtain ⟨vs, h6, h7⟩ := h5 i x a hx ha
  exact ⟨vs, e _ _ h6, paired_same e h7⟩
/-- another object changes: a lock of another dict -/
theorem Ah.up {H : Hp} {ad b : Addr} {o : HO} {kvs : List (List L2.Key × V)} {ks : List (List Int)} {as : List Addr} {A : List Int → List (List Int)} (hb : H b = some (.dT kvs) ∨ ∃ od, H b = some (.frz od (.dT kvs))) (hne : b ≠ ad) (h : Ah H ad ks as A) : Ah (upd H b o) ad ks as A := by
  obtain ⟨⟨kvs', h1, h2⟩, h3, h4, h5⟩ := h
  have ts : TSm H (upd H b o) := by
    rcases hb with hb | ⟨od, hb⟩
    · exact TSm.upD hb
    · exact TSm.up (fun xs e => by rw [hb] at e; cases e)
  refine ⟨⟨kvs', by rw [upd_ne (Ne.symm hne)]; exact h1, kvP_ts ts h2⟩, h3, h4, fun i x a hx ha => ?_⟩
  obtain ⟨vs, h6, h7⟩ := h5 i x a hx ha
  refine ⟨vs, ?_, paired_ts ts h7⟩
  rw [upd_ne]
  · exact h6
  · intro z; subst z
    rcases hb with hb | ⟨od, hb⟩ <;> rw [hb] at h6 <;> cases h6
theorem Ah.imp {H : Hp} {ad : Addr} {ks : List (List Int)} {as : List Addr} {A A' : List Int → List (List Int)} (h : Ah H ad ks as A) (e : ∀ x ∈ ks, A x = A' x) : Ah H ad ks as A' :=
  ⟨h.d, h.len, h.nd, fun i x a hx ha => by rw [← e x (List.mem_of_getElem? hx)]; exact h.ls i x a hx ha⟩
theorem look_zip : ∀ {ks : List (List Int)} {as : List Addr} {i : Nat} {x : List Int} {a : Addr}, ks.Nodup → ks[i]? = some x → as[i]? = some a → look (ks.zip as) x = some a
  | [], _, _, _, _, _, h, _ => by simp at h
  | k :: ks, [], _, _, _, _, _, h => by simp at h
  | k :: ks, b :: as, 0, x, a, _, h1, h2 => by
    simp at h1 h2; subst h1; subst h2
    rw [List.zip_cons_cons, look_cons, if_pos rfl]
  | k :: ks, b :: as, i + 1, x, a, hn, h1, h2 => by
    simp only [List.getElem?_cons_succ] at h1 h2
    have := List.nodup_cons.mp hn
    rw [List.zip_cons_cons, look_cons, if_neg (fun z => this.1 (by rw [show k = x from z]; exact List.mem_of_getElem? h1))]
    exact look_zip this.2 h1 h2
theorem Ah.at {H : Hp} {ad : Addr} {ks : List (List Int)} {as : List Addr} {A : List Int → List (List Int)} (h : Ah H ad ks as A) (hn : ks.Nodup) {y : List Int} (hy : y ∈ ks) : ∃ (i : Nat) (a : Addr) (vs : List V), ks[i]? = some y ∧ as[i]? = some a ∧ look (ks.zip as) y = some a ∧ H a = some (.lst vs) ∧ Paired (aT aI H) vs (A y) := by
  obtain ⟨i, hi⟩ := List.mem_iff_getElem?.mp hy
  have hl : i < as.length := by rw [h.len]; exact (List.getElem?_eq_some_iff.mp hi).1
  have ha : as[i]? = some as[i] := List.getElem?_eq_getElem hl
  obtain ⟨vs, h1, h2⟩ := h.ls i y _ hi ha
  exact ⟨i, _, vs, hi, ha, look_zip hn hi ha, h1, h2⟩
/-- one more at y -/
theorem Ah.push {H : Hp} {ad : Addr} {ks : List (List Int)} {as : List Addr} {A : List Int → List (List Int)} (h : Ah H ad ks as A) (hn : ks.Nodup) {i : Nat} {y x : List Int} {a : Addr} {vs : List V} {xv : V} (hi : ks[i]? = some y) (ha : as[i]? = some a) (hv : H a = some (.lst vs)) (hx : aT aI H xv x) :
    Ah (upd H a (.lst (vs ++ [xv]))) ad ks as (fun z => if y = z then A z ++ [x] else A z) := by
  obtain ⟨⟨kvs', h1, h2⟩, h3, h4, h5⟩ := h
  have hne : ad ≠ a := fun z => by rw [z, hv] at h1; cases h1
  refine ⟨⟨kvs', by rw [upd_ne hne]; exact h1, kvP_ts (TSm.upL hv) h2⟩, h3, h4, fun j z b hz hb => ?_⟩
  obtain ⟨ws, h6, h7⟩ := h5 j z b hz hb
  by_cases e : b = a
  · subst e
    have hij : j = i := by
      obtain ⟨e1, e2⟩ := List.getElem?_eq_some_iff.mp hb
      obtain ⟨e3, e4⟩ := List.getElem?_eq_some_iff.mp ha
      exact (List.getElem_inj h4).mp (by rw [e2, e4])
    subst hij
    rw [hi] at hz; cases hz
    rw [hv] at h6; cases h6
    refine ⟨_, upd_same, ?_⟩
    rw [if_pos rfl]
    exact Paired.snoc (paired_ts (TSm.upL hv) h7) (Im.upL hv hx)
  · refine ⟨ws, by rw [upd_ne e]; exact h6, ?_⟩
    have : ¬ y = z := by
      intro z'; subst z'
      have hij : j = i := by
        obtain ⟨e1, e2⟩ := List.getElem?_eq_some_iff.mp hz
        obtain ⟨e3, e4⟩ := List.getElem?_eq_some_iff.mp hi
        exact (List.getElem_inj hn).mp (by rw [e2, e4])
      subst hij
      rw [ha] at hb; cases hb; exact e rfl
    rw [if_neg this]
    exact paired_ts (TSm.upL hv) h7
theorem Ah.kv {H : Hp} {ad : Addr} {ks : List (List Int)} {as : List Addr} {A : List Int → List (List Int)} (h : Ah H ad ks as A) : aU (aL (aT aI)) H (.ref ad) (ks.map fun y => (y, A y)) := by
  obtain ⟨⟨kvs, h1, h2⟩, h3, h4, h5⟩ := h
  refine ⟨ad, kvs, rfl, h1, ?_⟩
  clear h1 h4
  induction ks generalizing as kvs with
  | nil =>
    rw [List.zip_nil_left] at h2
    cases h2; exact .nil
  | cons k ks ih =>
    cases as with
    | nil => cases h3
    | cons a as =>
      rw [List.zip_cons_cons] at h2
      cases h2 with
      | cons g t =>
        obtain ⟨vs, h6, h7⟩ := h5 0 k a rfl rfl
        exact .cons ⟨g.1, a, vs, g.2, h6, h7⟩ (ih (as := as) (by simpa using h3) (fun i x b hx hb => h5 (i + 1) x b (by simpa using hx) (by simpa using hb)) _ t)
/-- dict([(k, []) for k in d]) -/
theorem d_ahead {β : Type} {s : Rl β} [Ms s] {σ : L2.St} {H : Hp} {i j : Nat} {vs : List Nat} {v : V} {gr : List (List Int × β)} {Q : VK} (hσ : σ[i]? = some (some v)) (hv : aU s H v gr) (hz : gr.length ≤ 90000) (hn : (gr.map (·.1)).Nodup) (hi : ∀ v, ((wipe σ vs).set j (some v))[j]? = some (some v)) (hw : ∀ v, wipe ((wipe σ vs).set j (some v)) vs = wipe σ vs)
    (q : ∀ ad as H2, H ad = none → Same H H2 → Ah H2 ad (gr.map (·.1)) as (fun _ => []) → (∀ a ∈ as, H a = none) → Q (.ref ad) H2) :
    tCB (rDictT K) (tCons (tLockE (tLc (iKeys (tVar i)) (gName j) tYes (tTup (tCons (tVar j) (tCons (tLst tNil) tNil))) vs)) tNil) σ H Q := by
  obtain ⟨d, kvs, rfl, hd, hp⟩ := hv
  refine ⟨d, .dT kvs, hd, True.intro, fun od => ?_⟩
  refine el_lcE (r := aT aI) (H := upd H d (.frz od (.dT kvs))) (src_keys hσ upd_same (KvP.keys hp)) (by rw [List.length_map]; exact hz) hi hw _ (Same.refl _) _ fun l ws as H2 hl e2 hl2 hlen hpw hfr hnl => ?_
  have hd2 : H2 d = some (.frz od (.dT kvs)) := e2 _ _ upd_same
  have hfree : ∀ a, (upd H d (.frz od (.dT kvs))) a = none → H a = none ∧ a ≠ d := fun a ha => by
    have hne : a ≠ d := fun z => by rw [z, upd_same] at ha; cases ha
    rw [upd_ne hne] at ha; exact ⟨ha, hne⟩
  obtain ⟨hl0, hld⟩ := hfree l hl
  refine ⟨hd2, ?_⟩
  have e3 : Same H (upd H2 d (.dT kvs)) := Same.lock hd e2
  have tsu : TSm H2 (upd H2 d (.dT kvs)) := TSm.up (fun xs e => by rw [hd2] at e; cases e)
  have hpw2 : Paired (aP (aT aI) aA (upd H2 d (.dT kvs))) ws ((gr.map (·.1)).zip as) := paired_ts tsu hpw
  have hzf : ((gr.map (·.1)).zip as).map (·.1) = gr.map (·.1) := by
    have : ∀ {ks : List (List Int)} {as : List Addr}, as.length = ks.length → (ks.zip as).map (·.1) = ks := by
      intro ks
      induction ks with
      | nil => intro as _; simp
      | cons k ks ih => intro as h; cases as with
        | nil => cases h
        | cons a as => rw [List.zip_cons_cons, List.map_cons, ih (by simpa using h)]
    exact this hlen
  have hL : aL (aP (aT aI) aA) (upd H2 d (.dT kvs)) (.ref l) ((gr.map (·.1)).zip as) := ⟨l, ws, rfl, by rw [upd_ne hld]; exact hl2, hpw2⟩
  refine d_dict (K := K) (te := tC (.ref l)) (σ := σ) (s := aA) (gr := (gr.map (·.1)).zip as) (ed_v hL) (by rw [hzf]; exact hn) _ (Same.refl _) _ fun ad kv3 H3 had e4 hk3 hp3 => ?_
  refine q ad as H3 (e3.free had) (e3.trans e4) ⟨⟨kv3, hk3, hp3⟩, hlen, hfr.nd, fun i x a hx ha => ?_⟩ fun a ha => (hfree a (hfr.new a ha)).1
  have hm := List.mem_of_getElem? ha
  exact ⟨[], e4 _ _ (by rw [upd_ne (hfree a (hfr.new a hm)).2]; exact hfr.nil a hm), .nil⟩
end
end Pg

set_option Elab.async false
set_option linter.all false
set_option maxRecDepth 100000
set_option maxHeartbeats 4000000
namespace Pg
open PySem PySem.Spec PyProof.Rows L2 Pf
def fR (ρ : Rule) (ks : List (List Int)) (y : List Int) : List (Int × List Int) := (aheadOf ρ ks y).map fun x => ((0 : Int), x)
theorem mem_fR {ρ : Rule} {ks : List (List Int)} {y : List Int} {b : Int × List Int} (h : b ∈ fR ρ ks y) : b.2 ∈ aheadOf ρ ks y := by
  obtain ⟨x, hx, rfl⟩ := List.mem_map.mp h
  exact hx
theorem reachG_iff {ρ : Rule} {ks goals : List (List Int)} (G : Gr ρ ks) (hg : ∀ x ∈ goals, x ∈ ks) (x : List Int) : ReachG (fR ρ ks) goals x ↔ x ∈ ks ∧ ∃ y ∈ goals, Reach ρ x y := by
  constructor
  · intro h
    induction h with
    | base hx => exact ⟨hg _ hx, _, hx, .refl⟩
    | @step z b _ hb ih =>
      obtain ⟨h1, e, h2, h3⟩ := mem_ahead.mp (mem_fR hb)
      obtain ⟨_, y, hy, hr⟩ := ih
      refine ⟨h1, y, hy, Reach.trans (b := z) ?_ hr⟩
      have := Reach.step (Reach.refl (ρ := ρ) (c := b.2)) h2
      rw [h3] at this; exact this
  · rintro ⟨hx, y, hy, hr⟩
    have : ∀ z, Reach ρ x z → ReachG (fR ρ ks) goals z → ReachG (fR ρ ks) goals x := by
      intro z hz
      induction hz with
      | refl => exact id
      | @step u b hu hb ih =>
        intro h
        refine ih (ReachG.step (b := ((0 : Int), u)) h ?_)
        exact List.mem_map.mpr ⟨u, mem_ahead.mpr ⟨G.reach hx hu, b, hb, rfl⟩, rfl⟩
    exact this y hr (.base hy)
section
variable {P : Program} {w : World} {K : PySem.W.Frag} {mg : Str → Option Value} {base : Heap}
theorem s_ahead {β : Type} {s : Rl β} [Ms s] {σ : L2.St} {H : Hp} {i j m : Nat} {vs : List Nat} {v : V} {gr : List (List Int × β)} {D : Ends} (hσ : σ[i]? = some (some v)) (hv : aU s H v gr) (hz : gr.length ≤ 90000) (hn : (gr.map (·.1)).Nodup) (hi : ∀ v, ((wipe σ vs).set j (some v))[j]? = some (some v)) (hw : ∀ v, wipe ((wipe σ vs).set j (some v)) vs = wipe σ vs)
    (q : ∀ ad as H2, H ad = none → Same H H2 → Ah H2 ad (gr.map (·.1)) as (fun _ => []) → (∀ a ∈ as, H a = none) → D.nx (σ.set m (some (.ref ad))) H2) :
    tAsg (tCB (rDictT K) (tCons (tLockE (tLc (iKeys (tVar i)) (gName j) tYes (tTup (tCons (tVar j) (tCons (tLst tNil) tNil))) vs)) tNil)) (gName m) D σ H := d_ahead hσ hv hz hn hi hw q
/-- for crowd in graph: for number, behind in graph[crowd]: ahead[behind].append(crowd) -/
theorem walk_ahead {K : PySem.W.Frag} {σ0 : L2.St} {H H1 : Hp} {D : Ends} {ρ : Rule} {ks : List (List Int)} {v : V} {ad : Addr} {as : List Addr} {ig ia ix iN ib : Nat} (G : Gr ρ ks) (hm : ks.length * ρ.meets.length ≤ 90000) (hg : aU aSt H v (graphB ρ ks)) (had : H ad = none) (e1 : Same H H1) (hA : Ah H1 ad ks as (fun _ => [])) (has : ∀ a ∈ as, H a = none)
    (Sl : L2.St → Prop) (h0 : Sl σ0) (hset : ∀ σ x, Sl σ → Sl (σ.set ix (some x))) (hset2 : ∀ σ x y, Sl σ → Sl ((σ.set iN (some x)).set ib (some y))) (hig : ∀ σ, Sl σ → σ[ig]? = some (some v)) (hia : ∀ σ, Sl σ → σ[ia]? = some (some (.ref ad)))
    (hx : ∀ σ x, Sl σ → (σ.set ix (some x))[ix]? = some (some x)) (hxk : ∀ (σ : L2.St) (x y : V), ((σ.set iN (some x)).set ib (some y))[ix]? = σ[ix]?) (hb : ∀ σ x y, Sl σ → ((σ.set iN (some x)).set ib (some y))[ib]? = some (some y))
    (hd : ∀ σ H2, Sl σ → Same H H2 → Ah H2 ad ks as (aheadOf ρ ks) → D.nx σ H2) :
    tLock (tFor (iKeys (tVar ig)) (gName ix) (tFor (iList K (tDGet (tVar ig) (tVar ix))) (gTup K 2 (gCons (gName iN) (gCons (gName ib) gNil))) (tDrop (tBM K "list" rAppend (tDGet (tVar ia) (tVar ib)) (tCons (tVar ix) tNil))))) D σ0 H1 := by
  obtain ⟨d, kvs, rfl, hd0, hkv⟩ := hg
  have hdad : d ≠ ad := fun z => by rw [← z, hd0] at had; cases had
  have hdas : ∀ a ∈ as, a ≠ d := fun a ha z => by have := has a ha; rw [z, hd0] at this; cases this
  have hks9 : ks.length ≤ 90000 := G.few
  refine s_forK (gr := graphB ρ ks) (hig _ h0) (e1 _ _ hd0) (KvP.keys hkv) (fun n σ' H' => Sl σ' ∧ ∃ od, Same (upd H d (.frz od (.dT kvs))) H' ∧ Ah H' ad ks as (aheadOf ρ (ks.take n)))
    (fun od => ⟨h0, od, fun b o q => ?_, Ah.imp (Ah.up (Or.inl (e1 _ _ hd0)) hdad hA) fun x _ => by rw [List.take_zero]; rfl⟩) ?_ ?_
  · by_cases c : b = d
    · subst c; rw [upd_same] at q; cases q; exact upd_same
    · rw [upd_ne c] at q; rw [upd_ne c]; exact e1 _ _ q
  · rintro od0 n x xv σ' H2' H2 rt bk hnx ⟨hS, od, hsm, hAh⟩ e2 hfz hxv
    rw [graph_keys] at hnx
    have hsm := hsm.trans e2
    have hAh := hAh.same e2
    have hxk' : x ∈ ks := List.mem_of_getElem? hnx
    have hnl : n < ks.length := (List.getElem?_eq_some_iff.mp hnx).1
    have hlk : look (graphB ρ ks) x = some (stepsB ρ x) := by rw [look_graph, if_pos hxk']
    have hfz' : H2 d = some (.frz od (.dT kvs)) := hsm _ _ upd_same
    have hkb : KvP aSt (upd H d (.frz od (.dT kvs))) kvs (graphB ρ ks) := KvP.le (Le.lock hd0) hkv
    have gS := hset σ' xv hS
    have hlen : ∀ i y, (aheadOf ρ (ks.take n) y ++ leadOne ρ y x ((stepsB ρ x).take i)).length ≤ 90000 := fun i y => by
      have h1 := aheadOf_len ρ y (ks.take n)
      have h2 := leadOne_len ρ y x ((stepsB ρ x).take i)
      have h3 := stepsB_len ρ x
      have h4 : (ks.take n).length = n := by rw [List.length_take]; omega
      have h5 : ((stepsB ρ x).take i).length ≤ (stepsB ρ x).length := List.length_take_le' _ _
      have h6 : (n + 1) * ρ.meets.length ≤ ks.length * ρ.meets.length := Nat.mul_le_mul_right _ hnl
      rw [h4] at h1
      rw [List.length_append]
      rw [Nat.add_mul, Nat.one_mul] at h6
      omega
    refine s_forH (H0 := upd H d (.frz od (.dT kvs))) (r := aP aI (aT aI)) (ed_ixD (s := aAt aSt (upd H d (.frz od (.dT kvs)))) (g := graphB ρ ks) (ed_var (hig _ gS) ⟨d, kvs, rfl, Or.inr ⟨od, hfz'⟩, hkb⟩) (ed_var (hx _ _ hS) hxv) hlk)
      (fun i σ' H' => Sl σ' ∧ σ'[ix]? = some (some xv) ∧ aT aI H' xv x ∧ Same (upd H d (.frz od (.dT kvs))) H' ∧ Ah H' ad ks as (fun y => aheadOf ρ (ks.take n) y ++ leadOne ρ y x ((stepsB ρ x).take i)))
      (fun H3 e3 => ⟨gS, hx _ _ hS, Mo.mo e3 hxv, hsm.trans e3, Ah.imp (hAh.same e3) fun y _ => by rw [List.take_zero]; unfold leadOne; simp⟩) (fun i σ' H' h => h.2.2.2.1) ?_ ?_
    · rintro i b bv σ' H3 hbi ⟨hS3, hx3, hxv3, hsm3, hAh3⟩ hbv
      refine tg2 hbv fun v1 v2 h1 h2 => ?_
      have hbm : b ∈ stepsB ρ x := List.mem_of_getElem? hbi
      have hbk : b.2 ∈ ks := G.cl _ hxk' _ hbm
      obtain ⟨j, a, vs, hj, ha, hla, hva, hpv⟩ := hAh3.at G.nd hbk
      obtain ⟨kv3, hk3, hkp3⟩ := hAh3.d
      have ham := List.mem_of_getElem? ha
      have hnone : (upd H d (.frz od (.dT kvs))) a = none := by rw [upd_ne (hdas a ham)]; exact has a ham
      refine s_app (r := aT aI) (x := x) hva (ed_aV (ed_ixD (s := aA) (ed_ownD (hia _ (hset2 _ _ _ hS3)) hk3 hkp3) (ed_var (hb _ _ _ hS3) h2) hla)) (ed_var (by rw [hxk]; exact hx3) hxv3) (by have := hlen i b.2; rw [hpv.length]; omega) fun yv H4 e4 hyv => ?_
      have hva4 := e4 _ _ hva
      have hne : a ≠ d := hdas a ham
      refine ⟨hset2 _ _ _ hS3, by rw [hxk]; exact hx3, Im.upL hva4 (Mo.mo e4 hxv3), Same.mut (hsm3.trans e4) hnone, Ah.imp (Ah.push (hAh3.same e4) G.nd hj ha hva4 hyv) fun y _ => ?_⟩
      rw [leadOne_snoc hbi]
      by_cases c : b.2 = y
      · rw [if_pos c, if_pos c, List.append_assoc]
      · rw [if_neg c, if_neg c]
    · rintro σ' H3 ⟨hS3, hx3, hxv3, hsm3, hAh3⟩
      rw [List.take_length] at hAh3
      have : H3 d = some (.frz od0 (.dT kvs)) := by
        have h1 := hsm3 _ _ (upd_same (H := H) (a := d))
        rw [hfz'] at hfz; cases hfz; exact h1
      exact ⟨⟨hS3, od, hsm3, Ah.imp hAh3 fun y _ => (aheadOf_snoc hnx y).symm⟩, this⟩
  · rintro od σ' H2 ⟨hS, od', hsm, hAh⟩ hfz
    rw [graphB_len, List.take_length] at hAh
    exact hd σ' _ hS (Same.lock hd0 hsm) (Ah.up (Or.inr ⟨od, hfz⟩) hdad hAh)
end
end Pg

set_option Elab.async false
set_option linter.all false
set_option maxRecDepth 100000
set_option maxHeartbeats 4000000
namespace Pg
open PySem PySem.Spec PyProof.Rows L2 Pf
section
variable {P : Program} {w : World} {K : PySem.W.Frag} {mg : Str → Option Value} {base : Heap}
theorem hu3_of {A : Around} {k : Nat} (hr : Room k A) : A.units + 3 < cLine := Nat.lt_of_le_of_lt (Nat.add_le_add_left (by decide : 3 ≤ 64) _) hr.units
/-- a row of crowds in a list, a dict with these as keys, both one's own -/
structure RS {β : Type} (s : Rl β) (H0 : Hp) (sd l : Addr) (L : List (List Int)) (st : List (List Int × β)) (H' : Hp) : Prop where
  sm : Same H0 H'
  W : ∃ ws, H' l = some (.lst ws) ∧ Paired (aT aI H') ws L
  D : ∃ kvs, H' sd = some (.dT kvs) ∧ KvP s H' kvs st
theorem RS.same {β : Type} {s : Rl β} [Ms s] {H0 : Hp} {sd l : Addr} {L : List (List Int)} {st : List (List Int × β)} {H1 H2 : Hp} (e : Same H1 H2) (g : RS s H0 sd l L st H1) : RS s H0 sd l L st H2 := by
  obtain ⟨s, ⟨ws, l1, l2⟩, ⟨k2, d1, d2⟩⟩ := g
  exact ⟨s.trans e, ⟨ws, e _ _ l1, paired_same e l2⟩, ⟨k2, e _ _ d1, kvP_same e d2⟩⟩
/-- both grow by one -/
theorem RS.grow {β : Type} {s : Rl β} [Ms s] [Im s] {H0 : Hp} {sd l : Addr} {L : List (List Int)} {st : List (List Int × β)} {H1 H2 H3 : Hp} {ws : List V} {k2 : List (List L2.Key × V)} {x : List Int} {y : β} {bw yv : V}
    (sm : Same H0 H1) (hs0 : H0 sd = none) (hl0 : H0 l = none) (hld : l ≠ sd) (l1 : H1 l = some (.lst ws)) (l2 : Paired (aT aI H1) ws L) (d1 : H1 sd = some (.dT k2)) (d2 : KvP s H1 k2 st) (e2 : Same H1 H2) (hbw : s H2 bw y) (hn : look st x = none) (e3 : Same (upd H2 sd (.dT (putK k2 (kk x) bw))) H3) (hyv : aT aI H3 yv x) :
    RS s H0 sd l (L ++ [x]) (st ++ [(x, y)]) (upd H3 l (.lst (ws ++ [yv]))) ∧ TSm H1 (upd H3 l (.lst (ws ++ [yv]))) := by
  have d12 := e2 _ _ d1
  have l12 := e2 _ _ l1
  have hd2 := kvP_same e2 d2
  rw [putK_snoc bw hd2 hn] at e3
  have d13 := e3 _ _ (upd_same (H := H2) (a := sd))
  have l13 : H3 l = some (.lst ws) := e3 _ _ (by rw [upd_ne hld]; exact l12)
  have ts : TSm H2 (upd H3 l (.lst (ws ++ [yv]))) := (TSm.upD d12).trans ((TSm.of e3).trans (TSm.upL l13))
  refine ⟨⟨Same.mut ((Same.mut (sm.trans e2) hs0).trans e3) hl0, ⟨_, upd_same, ?_⟩, ⟨_, by rw [upd_ne (Ne.symm hld)]; exact d13, ?_⟩⟩, (TSm.of e2).trans ts⟩
  · exact Paired.snoc (paired_ts ((TSm.of e2).trans ts) l2) (Im.upL l13 hyv)
  · exact KvP.snoc (kvP_ts ts hd2) (Im.ts ts hbw)
def PreRk (p : (Rule × List (List Int)) × List (List Int)) : Prop := Gr p.1.1 p.1.2 ∧ p.2.Nodup ∧ (∀ x ∈ p.2, x ∈ p.1.2) ∧ p.1.2.length * p.1.1.meets.length ≤ 90000
def PostRk (p : (Rule × List (List Int)) × List (List Int)) (g : List (List Int × Int)) : Prop := (g.map (·.1)).Nodup ∧ ∀ x, x ∈ g.map (·.1) ↔ x ∈ p.1.2 ∧ ∃ y ∈ p.2, Reach p.1.1 x y
abbrev SpRk : Sp := SpP (A2 aG (aL (aT aI))) PreRk (aU aI) PostRk
theorem map_fst0 (xs : List (List Int)) : (xs.map fun g => (g, (0 : Int))).map (·.1) = xs := by
  induction xs with
  | nil => rfl
  | cons x r ih => simp only [List.map_cons]; rw [ih]
theorem ok_ranks_to (B : Bt mg) (d : Here K mg s_ranks_to "ranks_to" []) : Cl P w K mg base CX0 1 "ranks_to" ["graph", "goals"] [] SpRk := by
  refine d.cl sc_ranks_to (fun _ _ _ _ _ _ us hl => match us, hl with | [_, _], _ => rfl) (fun _ _ _ _ ⟨_, ⟨_, _, h, _⟩, _⟩ => by rw [h]; rfl) (fun f cdv A outer s H vs Q E hr h => ?_)
  obtain ⟨⟨⟨ρ, ks⟩, goals⟩, ⟨v, u, rfl, hg, hgo⟩, ⟨hG, hnd, hgk, hmm⟩, k⟩ := h
  have hu := hu_of hr
  have hu3 := hu3_of hr
  have hks9 : ks.length ≤ 90000 := hG.few
  have hgl : goals.length ≤ ks.length := nodup_le hnd hgk
  refine ⟨_, (pss_cons (ps_set (i := 2) sc_ranks_to.nd rfl (by first | exact Or.inl rfl | exact Or.inr rfl) (pe_callTy (call_dictT rfl hu3) (by rfl) B.dict (by decide +kernel) (pa_cons (pe_lock (pe_lc (own := [("crowd", 3)]) (g := (gName 3)) (tt := tYes) (te := (tTup (tCons (tVar 3) (tCons (tLst tNil) tNil)))) rfl sc_ranks_to.nd (pi_keys (pv 0)) (blkOk_by (own := [("crowd", 3)]) (N := ["graph", "goals", "ahead", "crowd", "number", "behind", "found", "line", "at", "goal"]) (sc := defScope s_ranks_to) (by decide +kernel)) (fun _ _ _ _ _ => by exact (pg_name (i := 3) sc_ranks_to.nd rfl (by first | exact Or.inl rfl | exact Or.inr rfl))) (fun _ _ _ _ _ => by exact pts_nil) (fun _ _ _ _ _ => by exact (pe_tup (pa_cons (pv 3) (pa_cons (pe_lst pa_nil) pa_nil)))))) pa_nil)))
    (pss_cons (ps_lock (ps_for PassesOwn.never rfl (pi_keys (pv 0)) (pg_name (i := 3) sc_ranks_to.nd rfl (by first | exact Or.inl rfl | exact Or.inr rfl))
    (pss_one (ps_for PassesOwn.never rfl (pi_list (pe_dget hu (pv 0) (pv 3) (fun _ _ => rfl))) (pg_tup rfl (pgs_cons (pg_name (i := 4) sc_ranks_to.nd rfl (by first | exact Or.inl rfl | exact Or.inr rfl)) (pgs_cons (pg_name (i := 5) sc_ranks_to.nd rfl (by first | exact Or.inl rfl | exact Or.inr rfl)) pgs_nil)))
    (pss_one (ps_expr (pe_bm PySem.F.plainAttrs_list PySem.F.slot_list_append PySem.F.type_list_append mt_append (pe_dget hu (pv 2) (pv 5) (fun _ _ => rfl)) (pa_cons (pv 3) pa_nil))))))))
    (pss_cons (ps_set (i := 6) sc_ranks_to.nd rfl (by first | exact Or.inl rfl | exact Or.inr rfl) (pe_callTy (call_dictT rfl hu3) (by rfl) B.dict (by decide +kernel) (pa_cons (pe_lc (own := [("goal", 9)]) (g := (gName 9)) (tt := tYes) (te := (tTup (tCons (tVar 9) (tCons (tC _) tNil)))) rfl sc_ranks_to.nd (pi_list (pv 1)) (blkOk_by (own := [("goal", 9)]) (N := ["graph", "goals", "ahead", "crowd", "number", "behind", "found", "line", "at", "goal"]) (sc := defScope s_ranks_to) (by decide +kernel)) (fun _ _ _ _ _ => by exact (pg_name (i := 9) sc_ranks_to.nd rfl (by first | exact Or.inl rfl | exact Or.inr rfl))) (fun _ _ _ _ _ => by exact pts_nil) (fun _ _ _ _ _ => by exact (pe_tup (pa_cons (pv 9) (pa_cons pe_int pa_nil))))) pa_nil)))
    (pss_cons (ps_set (i := 7) sc_ranks_to.nd rfl (by first | exact Or.inl rfl | exact Or.inr rfl) (pe_callTy call_list_of (by rfl) B.list (by decide +kernel) (pa_cons (pv 1) pa_nil)))
    (pss_cons (ps_set (i := 8) sc_ranks_to.nd rfl (by first | exact Or.inl rfl | exact Or.inr rfl) pe_int)
    (pss_cons (ps_while PassesOwn.never (pt_cmpR op_lt (pv 8) (pe_callB call_len_seq (by rfl) B.len PySem.boot_len (pa_cons (pv 7) pa_nil)) (nomark _)) (pss_cons (ps_for PassesOwn.never rfl (pi_list (pe_dget hu (pv 2) (pe_ix ix_list (pv 7) (pv 8) (fun _ _ => rfl)) (fun _ _ => rfl))) (pg_name (i := 3) sc_ranks_to.nd rfl (by first | exact Or.inl rfl | exact Or.inr rfl))
    (pss_one (ps_if (pt_cmp (pc_dnotin hu (pv 3) (pv 6)) (by rfl)) (pss_cons (ps_dput hu (pv 6) (pv 3) (pe_op op_add (pe_dget hu (pv 6) (pe_ix ix_list (pv 7) (pv 8) (fun _ _ => rfl)) (fun _ _ => rfl)) pe_int) rfl)
    (pss_one (ps_expr (pe_bm PySem.F.plainAttrs_list PySem.F.slot_list_append PySem.F.type_list_append mt_append (pv 7) (pa_cons (pv 3) pa_nil))))) pss_nil)))
    (pss_one (ps_set (i := 8) sc_ranks_to.nd rfl (by first | exact Or.inl rfl | exact Or.inr rfl) (pe_op op_add (pv 8) pe_int)))))
    (pss_one (ps_ret (pv 6))))))))), ?_⟩
  refine s_ahead (s := aSt) (gr := graphB ρ ks) rfl hg (by rw [graphB_len]; exact hks9) (by rw [graph_keys]; exact hG.nd) (fun _ => rfl) (fun _ => rfl) fun ad as H1 had e1 hA has => ?_
  rw [graph_keys] at hA
  refine walk_ahead (ig := 0) (ia := 2) (ix := 3) (iN := 4) (ib := 5) hG hmm hg had e1 hA has (fun σ => ∃ s3 s4 s5, σ = [some v, some u, some (.ref ad), s3, s4, s5, none, none, none, none]) ⟨none, none, none, rfl⟩
    (fun σ x ⟨s3, s4, s5, h⟩ => ⟨some x, s4, s5, by rw [h]; rfl⟩) (fun σ x y ⟨s3, s4, s5, h⟩ => ⟨s3, some x, some y, by rw [h]; rfl⟩) (fun σ ⟨_, _, _, h⟩ => by rw [h]; rfl) (fun σ ⟨_, _, _, h⟩ => by rw [h]; rfl) (fun σ x ⟨_, _, _, h⟩ => by rw [h]; rfl)
    (fun σ x y => by rw [List.getElem?_set_ne (by decide), List.getElem?_set_ne (by decide)]) (fun σ x y ⟨_, _, _, h⟩ => by rw [h]; rfl) ?_
  rintro σ HA ⟨s3, s4, s5, rfl⟩ eA hAh
  have hAkv := hAh.kv
  refine s_asgD (s := aI) (gr := goals.map fun g => (g, (0 : Int))) (d_dict (EdL.ed (el_is (el_lc1 (t := fun _ => true) (f := fun g => (g, (0 : Int))) (u := aP (aT aI) aI) (src_list (ed_var rfl (Mo.mo eA hgo))) (Nat.le_trans hgl hks9) (fun _ => rfl) (fun x xv H2 e2 hx hxv => et_yes) (fun x xv H2 e2 hx hxv _ => ed_pair (ed_var rfl hxv) ed_i)) (by rw [List.filter_eq_self.mpr (fun _ _ => rfl)]))) (by rw [map_fst0]; exact hnd)) fun fo kvs H2 hf0 e2 hf hfp => ?_
  refine s_asgL (el_listL (ed_var rfl (Mo.mo (eA.trans e2) hgo))) fun l ws H3 hl0 e3 hl hlp => ?_
  dsimp only
  refine s_asg ed_i fun v0 H4 e4 hv0 => ?_
  cases hv0
  have hlf : l ≠ fo := fun z => by subst z; rw [hf] at hl0; cases hl0
  have hl0' : HA l = none := e2.free hl0
  have bS : ∀ {n L}, BfsG (fR ρ ks) goals n L → L.length ≤ ks.length := fun B => nodup_le B.nd fun x hx => ((reachG_iff hG hgk x).mp (B.re x hx)).1
  refine s_while (fun m σ' H' => ∃ n L st s3 s9, σ' = [some v, some u, some (.ref ad), s3, s4, s5, some (.ref fo), some (.ref l), some (.int ((n : Nat) : Int)), s9] ∧ BfsG (fR ρ ks) goals n L ∧ st.map (·.1) = L ∧ m = ks.length - n ∧ RS aI HA fo l L st H') ks.length
    ⟨0, goals, _, s3, none, rfl, BfsG.start hnd, map_fst0 goals, by omega, (e2.trans e3).trans e4, ⟨ws, e4 _ _ hl, paired_same e4 hlp⟩, ⟨kvs, e4 _ _ (e3 _ _ hf), kvP_same (e3.trans e4) hfp⟩⟩ ?_
  rintro m σ' H' ⟨n, L, st, s3, s9, rfl, Bf, hst, rfl, G⟩
  obtain ⟨sm, ⟨ws1, l1, l2⟩, ⟨k2, d1, d2⟩⟩ := id G
  refine ⟨decide ((n : Int) < (L.length : Int)), et_test (ed_lt (ed_var (r := aI) rfl rfl) (ed_lenL (ed_own rfl l1 l2))), fun hb H5 e5 => ?_, fun hb H5 e5 => ?_⟩
  · have hn : n < L.length := by have := of_decide_eq_true hb; omega
    have hx : L[n]? = some L[n] := List.getElem?_eq_getElem hn
    generalize hxe : L[n] = x at hx
    have G1 := G.same e5
    obtain ⟨sm1, ⟨ws1, l1, l2⟩, ⟨k2, d1, d2⟩⟩ := id G1
    have hre := (reachG_iff hG hgk x).mp (Bf.re _ (List.mem_of_getElem? hx))
    have hBn := Bf.next hx
    have hAll : ∀ i, (addAll L ((fR ρ ks x).take i)).length ≤ ks.length := fun i => nodup_le (nodup_addAll Bf.nd) fun y hy => by
      rcases mem_addAll.mp hy with h | ⟨b, hb, rfl⟩
      · exact ((reachG_iff hG hgk y).mp (Bf.re y h)).1
      · exact (mem_ahead.mp (mem_fR (List.mem_of_mem_take hb))).1
    have hlk : look (ks.map fun y => (y, aheadOf ρ ks y)) x = some (aheadOf ρ ks x) := by rw [look_map, if_pos hre.1]
    have hfl : (fR ρ ks x).length = (aheadOf ρ ks x).length := by unfold fR; rw [List.length_map]
    refine s_forH (H0 := HA) (r := aT aI) (ed_ixD (s := aAt (aL (aT aI)) HA) (g := ks.map fun y => (y, aheadOf ρ ks y)) (ed_var rfl (aU.d (aU.at sm1 hAkv))) (ed_ixL (ed_own rfl l1 l2) (ed_var (r := aI) rfl rfl) (atI_nat hx)) hlk)
      (fun i σ' H' => ∃ st' s3, σ' = [some v, some u, some (.ref ad), s3, s4, s5, some (.ref fo), some (.ref l), some (.int ((n : Nat) : Int)), s9] ∧ st'.map (·.1) = addAll L ((fR ρ ks x).take i) ∧ RS aI HA fo l (addAll L ((fR ρ ks x).take i)) st' H')
      (fun H6 e6 => ⟨st, s3, rfl, hst, G1.same e6⟩) (fun i σ' H' ⟨_, _, _, _, h⟩ => h.sm) ?_ ?_
    · rintro i z zv σ' H6 hzi ⟨st', s3, rfl, hst', G2⟩ hzv
      obtain ⟨sm2, ⟨ws2, l12, l22⟩, ⟨k22, d12, d22⟩⟩ := id G2
      have hbi : (fR ρ ks x)[i]? = some ((0 : Int), z) := by unfold fR; rw [List.getElem?_map, hzi]; rfl
      have hadd : addAll L ((fR ρ ks x).take (i + 1)) = addL (addAll L ((fR ρ ks x).take i)) ((0 : Int), z) := addAll_take hbi
      show tIfS _ _ _ _ _ _
      refine s_if (b := !(look st' z).isSome) (et_B (ed_notInD (ed_var rfl hzv) (ed_ownD rfl d12 d22))) (fun hb H7 e7 => ?_) (fun hb H7 e7 => ?_)
      · have hln : look st' z = none := by simpa using hb
        have hnm : z ∉ st'.map (·.1) := look_none_iff.mp hln
        have hnm' : z ∉ addAll L ((fR ρ ks x).take i) := by rw [← hst']; exact hnm
        obtain ⟨t, ht⟩ := pre_addAll ((fR ρ ks x).take i) L
        have hx' : (addAll L ((fR ρ ks x).take i))[n]? = some x := by rw [ht, List.getElem?_append_left hn]; exact hx
        obtain ⟨rk, hrk⟩ : ∃ rk, look st' x = some rk := by
          have : (look st' x).isSome = true := look_isSome_iff.mpr (by rw [hst']; exact List.mem_of_getElem? hx')
          exact Option.isSome_iff_exists.mp this
        have hlw := l22.length
        have hld2 := d22.length
        have hAi := hAll i
        have hsl : st'.length = (addAll L ((fR ρ ks x).take i)).length := by rw [← hst', List.length_map]
        have l17 := e7 _ _ l12
        have d17 := e7 _ _ d12
        refine s_putD (r := aI) (x := rk + 1) d17 (ed_add (ed_ixD (ed_ownD rfl d17 (kvP_same e7 d22)) (ed_ixL (ed_own rfl l17 (paired_same e7 l22)) (ed_var (r := aI) rfl rfl) (atI_nat hx')) hrk) ed_i) (ed_ref rfl) (ed_var rfl (Mo.mo e7 hzv)) (by omega) fun bw H8 e8 hbw => ?_
        refine s_app (by rw [upd_ne hlf]; exact e8 _ _ l17) (ed_ref rfl) (ed_var rfl (Im.upD (e8 _ _ d17) (Mo.mo (e7.trans e8) hzv))) (by omega) fun yv H9 e9 hyv => ?_
        obtain ⟨g1, g2⟩ := RS.grow sm2 hf0 hl0' hlf l12 l22 d12 d22 (e7.trans e8) hbw hln e9 hyv
        refine ⟨st' ++ [(z, rk + 1)], _, rfl, ?_, ?_⟩
        · rw [hadd]; unfold addL; rw [if_neg hnm', List.map_append, hst']; rfl
        · rw [hadd]; unfold addL; rw [if_neg hnm']; exact g1
      · have hm : z ∈ addAll L ((fR ρ ks x).take i) := by
          rw [← hst']
          have : (look st' z).isSome = true := by simpa using hb
          exact look_isSome_iff.mp this
        refine ⟨st', _, rfl, ?_, ?_⟩
        · rw [hadd]; unfold addL; rw [if_pos hm]; exact hst'
        · rw [hadd]; unfold addL; rw [if_pos hm]; exact G2.same e7
    · rintro σ' H6 ⟨st', s3, rfl, hst', G2⟩
      rw [← hfl, List.take_length] at hst' G2
      dsimp only
      refine s_asg (ed_add (ed_var (r := aI) rfl rfl) ed_i) fun av H7 e7 hav => ?_
      cases hav
      refine ⟨ks.length - (n + 1), ?_, n + 1, addAll L (fR ρ ks x), st', s3, s9, rfl, hBn, hst', rfl, G2.same e7⟩
      have := bS Bf; omega
  · have hn : L.length ≤ n := by have := of_decide_eq_false hb; omega
    have hcl := Bf.all hn
    have G1 := G.same e5
    obtain ⟨sm1, _, ⟨k2, d1, d2⟩⟩ := id G1
    refine s_ret (r := aU aI) (x := st) (ed_var rfl ⟨fo, k2, rfl, d1, d2⟩) fun rv H6 e6 hrv => k rv H6 st ((eA.trans sm1).trans e6) hrv ⟨by rw [hst]; exact Bf.nd, fun x => by rw [hst, hcl, reachG_iff hG hgk]⟩
end
end Pg

set_option Elab.async false
set_option linter.all false
set_option maxRecDepth 100000
set_option maxHeartbeats 4000000
namespace Pg
open PySem PySem.Spec PyProof.Rows L2 Pf
inductive Qn
  | no (q : Qn)
  | both (p q : Qn)
  | either (p q : Qn)
  | least (s : List Int) (n : Int)
  | more (s t : List Int)
  | rest (s : List Int) (m r : Int)
def Qn.dep : Qn → Nat
  | .no q => q.dep + 1
  | .both p q => max p.dep q.dep + 1
  | .either p q => max p.dep q.dep + 1
  | _ => 0
def aQr (H : Hp) : Qn → V → Prop
  | .no q, v => ∃ a x, v = .ref a ∧ H a = some (.tup [.str "not", x]) ∧ aQr H q x
  | .both p q, v => ∃ a x y, v = .ref a ∧ H a = some (.tup [.str "both", x, y]) ∧ aQr H p x ∧ aQr H q y
  | .either p q, v => ∃ a x y, v = .ref a ∧ H a = some (.tup [.str "either", x, y]) ∧ aQr H p x ∧ aQr H q y
  | .least s n, v => ∃ a x, v = .ref a ∧ H a = some (.tup [.str "least", x, .int n]) ∧ aT aI H x s
  | .more s t, v => ∃ a x y, v = .ref a ∧ H a = some (.tup [.str "more", x, y]) ∧ aT aI H x s ∧ aT aI H y t
  | .rest s m r, v => ∃ a x, v = .ref a ∧ H a = some (.tup [.str "rest", x, .int m, .int r]) ∧ aT aI H x s
theorem aQr_im {H H' : Hp} (e : ∀ a xs, H a = some (.tup xs) → H' a = some (.tup xs)) : ∀ (q : Qn) (v : V), aQr H q v → aQr H' q v
  | .no q, v, ⟨a, x, h1, h2, h3⟩ => ⟨a, x, h1, e _ _ h2, aQr_im e q x h3⟩
  | .both p q, v, ⟨a, x, y, h1, h2, h3, h4⟩ => ⟨a, x, y, h1, e _ _ h2, aQr_im e p x h3, aQr_im e q y h4⟩
  | .either p q, v, ⟨a, x, y, h1, h2, h3, h4⟩ => ⟨a, x, y, h1, e _ _ h2, aQr_im e p x h3, aQr_im e q y h4⟩
  | .least s n, v, ⟨a, x, h1, h2, h3⟩ => ⟨a, x, h1, e _ _ h2, Im.im e h3⟩
  | .more s t, v, ⟨a, x, y, h1, h2, h3, h4⟩ => ⟨a, x, y, h1, e _ _ h2, Im.im e h3, Im.im e h4⟩
  | .rest s m r, v, ⟨a, x, h1, h2, h3⟩ => ⟨a, x, h1, e _ _ h2, Im.im e h3⟩
def aQ : Rl Qn := fun H v q => aQr H q v
instance : Im aQ := ⟨fun e h => aQr_im e _ _ h⟩
instance : Mo aQ := ⟨fun e h => Im.im e.tup h⟩
def handsB (some counts : List Int) : Int := (some.map fun k => counts.getD k.toNat 0).sum
def holdsB : Qn → List Int → Bool
  | .no q, c => !holdsB q c
  | .both p q, c => holdsB p c && holdsB q c
  | .either p q, c => holdsB p c || holdsB q c
  | .least s n, c => decide (n ≤ handsB s c)
  | .more s t, c => decide (handsB t c < handsB s c)
  | .rest s m r, c => decide (handsB s c % m = r)
def SFits (s c : List Int) : Prop := s.length ≤ 90000 ∧ ∀ x ∈ s, ∃ n : Nat, x = (n : Int) ∧ n < c.length
def QFits : Qn → List Int → Prop
  | .no q, c => QFits q c
  | .both p q, c => QFits p c ∧ QFits q c
  | .either p q, c => QFits p c ∧ QFits q c
  | .least s _, c => SFits s c
  | .more s t, c => SFits s c ∧ SFits t c
  | .rest s m _, c => SFits s c ∧ 0 < m
section
variable {P : Program} {w : World} {K : PySem.W.Frag} {mg : Str → Option Value} {base : Heap}
abbrev SpHands : Sp := Sp2 (aT aI) (aT aI) SFits aI handsB
theorem ok_hands_of (B : Bt mg) (d : Here K mg s_hands_of "hands_of" []) : Cl P w K mg base CX0 1 "hands_of" ["some", "counts"] [] SpHands := by
  refine d.cl sc_hands_of (fun _ _ _ _ _ _ us hl => match us, hl with | [_, _], _ => rfl) len2 (fun f cdv A outer s H vs Q E hr h => ?_)
  obtain ⟨v, u, so, c, rfl, hs, hc, F, k⟩ := h
  have hu := hu_of hr
  refine ⟨_, (pss_one (ps_ret (pe_callB (cr_sum rfl) (by rfl) B.sum (by decide +kernel) (pa_cons (pe_lc (own := [("sort", 2)]) (g := (gName 2)) (tt := tYes) (te := (tOp (rIxT K) (tVar 1) (tVar 2))) rfl sc_hands_of.nd (pi_tup (pv 0)) (blkOk_by (own := [("sort", 2)]) (N := ["some", "counts", "sort"]) (sc := defScope s_hands_of) (by decide +kernel)) (fun _ _ _ _ _ => by exact (pg_name (i := 2) sc_hands_of.nd rfl (by first | exact Or.inl rfl | exact Or.inr rfl))) (fun _ _ _ _ _ => by exact pts_nil) (fun _ _ _ _ _ => by exact (pe_ix ix_tup (pv 1) (pv 2) (fun _ _ => rfl)))) pa_nil)))), ?_⟩
  refine s_ret (ed_sumL (EdL.ed (el_is (el_lc1 (t := fun _ => true) (f := fun x => c.getD x.toNat 0) (u := aI) (src_tup (ed_var rfl hs)) F.1 (fun _ => rfl) (fun x xv H1 e hx hxv => et_yes) (fun x xv H1 e hx hxv _ => ?_)) (by rw [List.filter_eq_self.mpr (fun _ _ => rfl)])))) fun v H1 e hv => k v H1 e hv
  obtain ⟨n, hn, hlt⟩ := F.2 x hx
  exact ed_ixT (ed_var rfl (Mo.mo e hc)) (ed_var rfl hxv) (by rw [hn]; exact at_ok hlt)
abbrev SpH (n : Nat) : Sp := Sp2 aQ (aT aI) (fun q c => q.dep < n ∧ QFits q c) aB holdsB
theorem ok_holds0 (d : Here K mg s_holds "holds" []) : Cl P w K mg base CX0 1 "holds" ["question", "counts"] [] (SpH 0) :=
  d.cl sc_holds (fun _ _ _ _ _ _ us hl => match us, hl with | [_, _], _ => rfl) len2 (fun f cdv A outer s H vs Q E hr h => by obtain ⟨_, _, _, _, _, _, _, ⟨h, _⟩, _⟩ := h; exact absurd h (Nat.not_lt_zero _))
theorem ed_at {α : Type} {r : Rl α} {x : α} {σ : L2.St} {H : Hp} {i : Nat} {a : Addr} {xs : List V} {j : Int} {y : V} (h : σ[i]? = some (some (.ref a))) (ha : H a = some (.tup xs)) (hy : atI xs j = some y) (hr : r H y x) [Ms r] : Ed (tOp (rIxT K) (tVar i) (tC (.int j))) σ H r x := fun H1 e Q q =>
  ⟨.ref a, h, a, xs, j, y, rfl, rfl, SqT.of (e _ _ ha), hy, q y H1 (Same.refl _) (Mo.mo e hr)⟩
/-- a word that is another one -/
theorem s_word {σ : L2.St} {H : Hp} {i : Nat} {z z' : Str} {D : Ends} {tw tv : TS} (h : σ[i]? = some (some (.str z))) (hn : decide (z = z') = false) (k : ∀ H1, Same H H1 → tv D σ H1) : tIfS (tTest (tOp rEq (tVar i) (tC (.str z')))) tw tv D σ H :=
  s_if (b := false) (et_is (et_test (ed_eqS (ed_var (r := aS) h rfl) ed_s)) hn) (fun z => nomatch z) (fun _ H1 e => k H1 e)
theorem s_word1 {σ : L2.St} {H : Hp} {i : Nat} {z : Str} {D : Ends} {tw tv : TS} (h : σ[i]? = some (some (.str z))) (k : ∀ H1, Same H H1 → tw D σ H1) : tIfS (tTest (tOp rEq (tVar i) (tC (.str z)))) tw tv D σ H :=
  s_if (b := true) (et_is (et_test (ed_eqS (ed_var (r := aS) h rfl) ed_s)) (decide_eq_true rfl)) (fun _ H1 e => k H1 e) (fun z => nomatch z)
theorem ok_holdsS (B : Bt mg) {n kk : Nat} (hkk : 1 ≤ kk) (c_hands_of : Cl P w K mg base CX0 1 "hands_of" ["some", "counts"] [] SpHands) (c_holds : Cl P w K mg base CX0 kk "holds" ["question", "counts"] [] (SpH n)) (d : Here K mg s_holds "holds" []) :
    Cl P w K mg base CX0 (kk + 1) "holds" ["question", "counts"] [] (SpH (n + 1)) := by
  refine d.cl sc_holds (fun _ _ _ _ _ _ us hl => match us, hl with | [_, _], _ => rfl) len2 (fun f cdv A outer s H vs Q E hr h => ?_)
  obtain ⟨v, u, q, c, rfl, hq, hc, ⟨hdep, F⟩, k⟩ := h
  have hu := hu_of hr
  refine ⟨_, (pss_cons (ps_set (i := 2) sc_holds.nd rfl (by first | exact Or.inl rfl | exact Or.inr rfl) (pe_ix ix_tup (pv 0) pe_int (fun _ _ => rfl)))
    (pss_cons (ps_if (pt_cmpR op_eq (pv 2) pe_str (nomark _)) (pss_one (ps_ret (pe_not (pe_cl c_holds (hr.mono (by first | decide | omega)) (by rfl) pass0 (pa_cons (pe_ix ix_tup (pv 0) pe_int (fun _ _ => rfl)) (pa_cons (pv 1) pa_nil)))))) pss_nil)
    (pss_cons (ps_if (pt_cmpR op_eq (pv 2) pe_str (nomark _)) (pss_one (ps_ret (pe_and (pe_cl c_holds (hr.mono (by first | decide | omega)) (by rfl) pass0 (pa_cons (pe_ix ix_tup (pv 0) pe_int (fun _ _ => rfl)) (pa_cons (pv 1) pa_nil))) (pe_one (pe_cl c_holds (hr.mono (by first | decide | omega)) (by rfl) pass0 (pa_cons (pe_ix ix_tup (pv 0) pe_int (fun _ _ => rfl)) (pa_cons (pv 1) pa_nil))))))) pss_nil)
    (pss_cons (ps_if (pt_cmpR op_eq (pv 2) pe_str (nomark _)) (pss_one (ps_ret (pe_or (pe_cl c_holds (hr.mono (by first | decide | omega)) (by rfl) pass0 (pa_cons (pe_ix ix_tup (pv 0) pe_int (fun _ _ => rfl)) (pa_cons (pv 1) pa_nil))) (pe_one (pe_cl c_holds (hr.mono (by first | decide | omega)) (by rfl) pass0 (pa_cons (pe_ix ix_tup (pv 0) pe_int (fun _ _ => rfl)) (pa_cons (pv 1) pa_nil))))))) pss_nil)
    (pss_cons (ps_if (pt_cmpR op_eq (pv 2) pe_str (nomark _)) (pss_one (ps_ret (pe_cmpR op_ge (pe_cl c_hands_of (hr.mono (by first | decide | omega)) (by rfl) pass0 (pa_cons (pe_ix ix_tup (pv 0) pe_int (fun _ _ => rfl)) (pa_cons (pv 1) pa_nil))) (pe_ix ix_tup (pv 0) pe_int (fun _ _ => rfl)) (nomark _)))) pss_nil)
    (pss_cons (ps_if (pt_cmpR op_eq (pv 2) pe_str (nomark _)) (pss_one (ps_ret (pe_cmpR op_gt (pe_cl c_hands_of (hr.mono (by first | decide | omega)) (by rfl) pass0 (pa_cons (pe_ix ix_tup (pv 0) pe_int (fun _ _ => rfl)) (pa_cons (pv 1) pa_nil))) (pe_cl c_hands_of (hr.mono (by first | decide | omega)) (by rfl) pass0 (pa_cons (pe_ix ix_tup (pv 0) pe_int (fun _ _ => rfl)) (pa_cons (pv 1) pa_nil))) (nomark _)))) pss_nil)
    (pss_one (ps_ret (pe_cmpR op_eq (pe_op op_mod (pe_cl c_hands_of (hr.mono (by first | decide | omega)) (by rfl) pass0 (pa_cons (pe_ix ix_tup (pv 0) pe_int (fun _ _ => rfl)) (pa_cons (pv 1) pa_nil))) (pe_ix ix_tup (pv 0) pe_int (fun _ _ => rfl))) (pe_ix ix_tup (pv 0) pe_int (fun _ _ => rfl)) (nomark _)))))))))), ?_⟩
  cases q with
  | no q =>
    obtain ⟨a, x, rfl, ha, hx⟩ := hq
    refine s_asg (ed_at (r := aS) rfl ha rfl rfl) fun wv H1 e1 hw => ?_
    cases hw
    refine s_word1 rfl fun H2 e2 => ?_
    have e := e1.trans e2
    exact s_ret (ed_notV (ed_call2 (x := q) (y := c) (ed_at (r := aQ) rfl (e _ _ ha) rfl (Mo.mo (r := aQ) e hx)) (ed_var rfl (Mo.mo e hc)) ⟨by have : q.dep + 1 < n + 1 := hdep; omega, F⟩)) fun v H3 e3 hv => k v H3 (e.trans e3) hv
  | both p q =>
    obtain ⟨a, x, y, rfl, ha, hx, hy⟩ := hq
    have hdep' : max p.dep q.dep + 1 < n + 1 := hdep
    refine s_asg (ed_at (r := aS) rfl ha rfl rfl) fun wv H1 e1 hw => ?_
    cases hw
    refine s_word rfl (by decide +kernel) fun H2 e2 => ?_
    dsimp only
    refine s_word1 rfl fun H3 e3 => ?_
    have e := (e1.trans e2).trans e3
    exact s_ret (ed_andV (ed_call2 (x := p) (y := c) (ed_at (r := aQ) rfl (e _ _ ha) rfl (Mo.mo (r := aQ) e hx)) (ed_var rfl (Mo.mo e hc)) ⟨by omega, F.1⟩) fun _ => ed_call2 (x := q) (y := c) (ed_at (r := aQ) rfl (e _ _ ha) rfl (Mo.mo (r := aQ) e hy)) (ed_var rfl (Mo.mo e hc)) ⟨by omega, F.2⟩) fun v H4 e4 hv => k v H4 (e.trans e4) hv
  | either p q =>
    obtain ⟨a, x, y, rfl, ha, hx, hy⟩ := hq
    have hdep' : max p.dep q.dep + 1 < n + 1 := hdep
    refine s_asg (ed_at (r := aS) rfl ha rfl rfl) fun wv H1 e1 hw => ?_
    cases hw
    refine s_word rfl (by decide +kernel) fun H2 e2 => ?_
    dsimp only
    refine s_word rfl (by decide +kernel) fun H2' e2' => ?_
    dsimp only
    refine s_word1 rfl fun H3 e3 => ?_
    have e := ((e1.trans e2).trans e2').trans e3
    exact s_ret (ed_orV (ed_call2 (x := p) (y := c) (ed_at (r := aQ) rfl (e _ _ ha) rfl (Mo.mo (r := aQ) e hx)) (ed_var rfl (Mo.mo e hc)) ⟨by omega, F.1⟩) fun _ => ed_call2 (x := q) (y := c) (ed_at (r := aQ) rfl (e _ _ ha) rfl (Mo.mo (r := aQ) e hy)) (ed_var rfl (Mo.mo e hc)) ⟨by omega, F.2⟩) fun v H4 e4 hv => k v H4 (e.trans e4) hv
  | least so m =>
    obtain ⟨a, x, rfl, ha, hx⟩ := hq
    refine s_asg (ed_at (r := aS) rfl ha rfl rfl) fun wv H1 e1 hw => ?_
    cases hw
    refine s_word rfl (by decide +kernel) fun H2 e2 => ?_
    dsimp only
    refine s_word rfl (by decide +kernel) fun H3 e3 => ?_
    dsimp only
    refine s_word rfl (by decide +kernel) fun H4 e4 => ?_
    dsimp only
    refine s_word1 rfl fun H5 e5 => ?_
    have e := (((e1.trans e2).trans e3).trans e4).trans e5
    exact s_ret (ed_ge (ed_call2 (x := so) (y := c) (ed_at (r := aT aI) rfl (e _ _ ha) rfl (Mo.mo e hx)) (ed_var rfl (Mo.mo e hc)) F) (ed_at (r := aI) rfl (e _ _ ha) rfl rfl)) fun v H6 e6 hv => k v H6 (e.trans e6) hv
  | more so t =>
    obtain ⟨a, x, y, rfl, ha, hx, hy⟩ := hq
    refine s_asg (ed_at (r := aS) rfl ha rfl rfl) fun wv H1 e1 hw => ?_
    cases hw
    refine s_word rfl (by decide +kernel) fun H2 e2 => ?_
    dsimp only
    refine s_word rfl (by decide +kernel) fun H3 e3 => ?_
    dsimp only
    refine s_word rfl (by decide +kernel) fun H4 e4 => ?_
    dsimp only
    refine s_word rfl (by decide +kernel) fun H5 e5 => ?_
    dsimp only
    refine s_word1 rfl fun H6 e6 => ?_
    have e := ((((e1.trans e2).trans e3).trans e4).trans e5).trans e6
    exact s_ret (ed_gt (ed_call2 (x := so) (y := c) (ed_at (r := aT aI) rfl (e _ _ ha) rfl (Mo.mo e hx)) (ed_var rfl (Mo.mo e hc)) F.1) (ed_call2 (x := t) (y := c) (ed_at (r := aT aI) rfl (e _ _ ha) rfl (Mo.mo e hy)) (ed_var rfl (Mo.mo e hc)) F.2)) fun v H7 e7 hv => k v H7 (e.trans e7) hv
  | rest so m r =>
    obtain ⟨a, x, rfl, ha, hx⟩ := hq
    refine s_asg (ed_at (r := aS) rfl ha rfl rfl) fun wv H1 e1 hw => ?_
    cases hw
    refine s_word rfl (by decide +kernel) fun H2 e2 => ?_
    dsimp only
    refine s_word rfl (by decide +kernel) fun H3 e3 => ?_
    dsimp only
    refine s_word rfl (by decide +kernel) fun H4 e4 => ?_
    dsimp only
    refine s_word rfl (by decide +kernel) fun H5 e5 => ?_
    dsimp only
    refine s_word rfl (by decide +kernel) fun H6 e6 => ?_
    have e := ((((e1.trans e2).trans e3).trans e4).trans e5).trans e6
    dsimp only
    exact s_ret (ed_eqI (ed_mod (ed_call2 (x := so) (y := c) (ed_at (r := aT aI) rfl (e _ _ ha) rfl (Mo.mo e hx)) (ed_var rfl (Mo.mo e hc)) F.1) (ed_at (r := aI) rfl (e _ _ ha) rfl rfl) F.2) (ed_at (r := aI) rfl (e _ _ ha) rfl rfl)) fun v H7 e7 hv => k v H7 (e.trans e7) hv
abbrev SpTw (n : Nat) : Sp := Sp2 aQ (aT aI) (fun q c => q.dep < n ∧ QFits q c) aS (fun q c => if holdsB q c = true then "yes" else "no")
theorem ok_truth_word (B : Bt mg) {n kk : Nat} (c_holds : Cl P w K mg base CX0 kk "holds" ["question", "counts"] [] (SpH n)) (d : Here K mg s_truth_word "truth_word" []) :
    Cl P w K mg base CX0 (kk + 1) "truth_word" ["question", "counts"] [] (SpTw n) := by
  refine d.cl sc_truth_word (fun _ _ _ _ _ _ us hl => match us, hl with | [_, _], _ => rfl) len2 (fun f cdv A outer s H vs Q E hr h => ?_)
  obtain ⟨v, u, q, c, rfl, hq, hc, F, k⟩ := h
  have hu := hu_of hr
  refine ⟨_, (pss_one (ps_ret (pe_ifExp (pt_val (pe_cl c_holds (hr.mono (by first | decide | omega)) (by rfl) pass0 (pa_cons (pv 0) (pa_cons (pv 1) pa_nil)))) pe_str pe_str))), ?_⟩
  refine s_ret (ed_if (et_B (ed_call2 (ed_var rfl hq) (ed_var rfl hc) F)) (fun hb => ed_is ed_s ?_) (fun hb => ed_is ed_s ?_)) fun v H1 e hv => k v H1 e hv
  · exact (if_pos hb).symm
  · exact (if_neg (by rw [hb]; decide)).symm
end
end Pg

set_option Elab.async false
set_option linter.all false
set_option maxRecDepth 100000
set_option maxHeartbeats 4000000
namespace Pg
open PySem PySem.Spec PyProof.Rows L2 Pf
section
variable {P : Program} {w : World} {K : PySem.W.Frag} {mg : Str → Option Value} {base : Heap}
abbrev Tab := List (List Int × Int)
def aGt : Rl (Rule × List (List Int) × Tab × Tab) := fun H v p => ∃ a x y z, v = .ref a ∧ H a = some (.tup [x, y, z]) ∧ aG H x (p.1, p.2.1) ∧ aU aI H y p.2.2.1 ∧ aU aI H z p.2.2.2
instance : Ms aGt := ⟨fun e ⟨a, x, y, z, h1, h2, h3, h4, h5⟩ => ⟨a, x, y, z, h1, e _ _ h2, Mo.mo e h3, Mo.mo e h4, Mo.mo e h5⟩⟩
def wordB (q : Qn) (counts : List Int) : Str := if holdsB q counts = true then "yes" else "no"
structure Gone (ρ : Rule) (c : List Int) (word : Str) (ks : List (List Int)) (tw ts : Tab) : Prop where
  ky : KeysG ρ c ks
  twn : (tw.map (·.1)).Nodup
  twi : ∀ x, x ∈ tw.map (·.1) ↔ x ∈ ks ∧ ∃ y, y ∈ ks ∧ saidB ρ y ≠ word ∧ Reach ρ x y
  tsn : (ts.map (·.1)).Nodup
  tsi : ∀ x, x ∈ ts.map (·.1) ↔ x ∈ ks ∧ ∃ y, y ∈ ks ∧ y ∉ tw.map (·.1) ∧ Reach ρ x y
abbrev Arg4 := Rule × Qn × List Int × Int
def PreGt (n : Nat) (p : Arg4) : Prop := FitsB p.1 p.2.2.1 ∧ PreG (p.1, begF p.1 p.2.2.1, p.2.2.2) ∧ (p.2.1.dep < n ∧ QFits p.2.1 p.2.2.1) ∧ ∀ S, Comes p.1 (begF p.1 p.2.2.1) S → S.length * p.1.meets.length ≤ 90000
def OkGt (p : Arg4) : Prop := OkG (p.1, begF p.1 p.2.2.1, p.2.2.2)
def PostGt (p : Arg4) (g : Rule × List (List Int) × Tab × Tab) : Prop := g.1 = p.1 ∧ Gone p.1 (begF p.1 p.2.2.1) (wordB p.2.1 p.2.2.1) g.2.1 g.2.2.1 g.2.2.2
abbrev SpGt (n : Nat) (C : Addr) : Sp := SpX (A4 aR aQ (aT aI) aI) (PreGt n) OkGt aGt PostGt C
theorem eaX2 {α β : Type} {r : Rl α} {s : Rl β} [Ms r] [Ms s] {σ : L2.St} {H : Hp} {ta tb : TE} {x : α} {y : β} (h : Ed ta σ H r x) (h' : Ed tb σ H s y) : EdA (tCons ta (tCons tb tNil)) σ H (fun H' vs => A2 r s H' (vs ++ []) (x, y)) := eA2 h h'
theorem ok_gone_through (B : Bt mg) {C : Addr} {n kt kg : Nat} (hk4 : 4 ≤ kg) (hkt : kt ≤ kg) (c_graph_of : Cl P w K mg base (L2.CX P w) 4 "graph_of" ["rule", "crowd", "limit"] [] (SpGr C)) (c_begun : Cl P w K mg base CX0 1 "begun" ["rule", "counts"] [] SpBegun) (c_truth_word : Cl P w K mg base CX0 kt "truth_word" ["question", "counts"] [] (SpTw n))
    (c_said : Cl P w K mg base CX0 1 "said" ["rule", "crowd"] [] SpSaid) (c_ranks_to : Cl P w K mg base CX0 1 "ranks_to" ["graph", "goals"] [] SpRk) (d : Here K mg s_gone_through "gone_through" []) :
    Cl P w K mg base (L2.CX P w) (kg + 1) "gone_through" ["rule", "question", "counts", "limit"] [] (SpGt n C) := by
  refine d.clX sc_gone_through (fun _ _ _ _ _ _ us hl => match us, hl with | [_, _, _, _], _ => rfl) (fun _ _ _ _ ⟨_, ⟨_, _, _, _, h, _⟩, _⟩ => by rw [h]; rfl) (fun f cdv A outer s H vs Q E hr h => ?_)
  obtain ⟨⟨ρ, q, c, lim⟩, ⟨v, u, v2, v3, rfl, hρ, hq, hc, hl⟩, ⟨FB, PG, FQ, hm⟩, kt, kf⟩ := h
  have hu := hu_of hr
  refine ⟨_, (pss_cons (ps_set (i := 4) sc_gone_through.nd rfl (by first | exact Or.inl rfl | exact Or.inr rfl) (pe_clS c_graph_of (hr.mono (by first | decide | omega)) (by rfl) (fun σ => passAt (W := wE E) (takes_of rfl rfl rfl rfl) σ) (pa_cons (pv 0) (pa_cons (pe_cl c_begun (hr.mono (by first | decide | omega)) (by rfl) pass0 (pa_cons (pv 0) (pa_cons (pv 2) pa_nil))) (pa_cons (pv 3) pa_nil)))))
    (pss_cons (ps_set (i := 5) sc_gone_through.nd rfl (by first | exact Or.inl rfl | exact Or.inr rfl) (pe_cl c_truth_word (hr.mono (by first | decide | omega)) (by rfl) pass0 (pa_cons (pv 1) (pa_cons (pv 2) pa_nil))))
    (pss_cons (ps_set (i := 6) sc_gone_through.nd rfl (by first | exact Or.inl rfl | exact Or.inr rfl) (pe_cl c_ranks_to (hr.mono (by first | decide | omega)) (by rfl) pass0 (pa_cons (pv 4) (pa_cons (pe_lock (pe_lc (own := [("crowd", 8)]) (g := (gName 8)) (tt := (tTest (tOp _ (tCall _ _ _ (tCons (tVar 0) (tCons (tVar 8) tNil))) (tVar 5)))) (te := (tVar 8)) rfl sc_gone_through.nd (pi_keys (pv 4)) (blkOk_by (own := [("crowd", 8)]) (N := ["rule", "question", "counts", "limit", "graph", "word", "to_wrong", "to_settled", "crowd"]) (sc := defScope s_gone_through) (by decide +kernel)) (fun _ _ _ _ _ => by exact (pg_name (i := 8) sc_gone_through.nd rfl (by first | exact Or.inl rfl | exact Or.inr rfl))) (fun _ _ _ _ _ => by exact (pts_one (pt_cmpR op_ne (pe_cl c_said (hr.mono (by first | decide | omega)) (by rfl) pass0 (pa_cons (pv 0) (pa_cons (pv 8) pa_nil))) (pv 5) (nomark _)))) (fun _ _ _ _ _ => by exact (pv 8)))) pa_nil))))
    (pss_cons (ps_set (i := 7) sc_gone_through.nd rfl (by first | exact Or.inl rfl | exact Or.inr rfl) (pe_cl c_ranks_to (hr.mono (by first | decide | omega)) (by rfl) pass0 (pa_cons (pv 4) (pa_cons (pe_lock (pe_lc (own := [("crowd", 8)]) (g := (gName 8)) (tt := (tB (tDNotIn (tVar 8) (tVar 6)))) (te := (tVar 8)) rfl sc_gone_through.nd (pi_keys (pv 4)) (blkOk_by (own := [("crowd", 8)]) (N := ["rule", "question", "counts", "limit", "graph", "word", "to_wrong", "to_settled", "crowd"]) (sc := defScope s_gone_through) (by decide +kernel)) (fun _ _ _ _ _ => by exact (pg_name (i := 8) sc_gone_through.nd rfl (by first | exact Or.inl rfl | exact Or.inr rfl))) (fun _ _ _ _ _ => by exact (pts_one (pt_cmp (pc_dnotin hu (pv 8) (pv 6)) (by rfl)))) (fun _ _ _ _ _ => by exact (pv 8)))) pa_nil))))
    (pss_one (ps_ret (pe_tup (pa_cons (pv 4) (pa_cons (pv 6) (pa_cons (pv 7) pa_nil)))))))))), ?_⟩
  by_cases ho : OkG (ρ, begF ρ c, lim)
  case neg => exact s_xasg (ex_callX (eA3 (ed_var rfl hρ) (ed_call2 (ed_var rfl hρ) (ed_var rfl hc) FB) (ed_var rfl hl)) PG ho fun H1 e => kf ho H1 e)
  refine s_asg (ed_callX (eA3 (ed_var rfl hρ) (ed_call2 (ed_var rfl hρ) (ed_var rfl hc) FB) (ed_var rfl hl)) PG ho) fun gv H1 e1 ⟨g, hgv, ks, hg, hk⟩ => ?_
  have hG := hk.gr PG
  have hks := hm ks hk.1
  have hks9 : ks.length ≤ 90000 := hG.few
  have hgv' : aG H1 gv (ρ, ks) := by show aU aSt H1 gv (graphB ρ ks); rw [← show g = graphB ρ ks from hg]; exact hgv
  have FF : ∀ x ∈ ks, Fits ρ x := fun x hx => PG.1.reach ((hk.1.2 x).mp hx)
  refine s_asg (ed_call2 (ed_var rfl (Mo.mo e1 hq)) (ed_var rfl (Mo.mo e1 hc)) FQ) fun wv H2 e2 hw => ?_
  cases hw
  have ew : (if holdsB q c = true then ("yes" : Str) else "no") = wordB q c := rfl
  rw [ew]
  have hgv2 := Mo.mo (r := aG) e2 hgv'
  have e12 := e1.trans e2
  dsimp only
  refine s_asg (ed_callP (p := ((ρ, ks), ks.filter fun x => !decide (saidB ρ x = wordB q c))) (eA2 (r := aG) (s := aL (aT aI)) (ed_var rfl hgv2) (EdL.ed (el_is (el_lcK (s := aSt) (gr := graphB ρ ks) (t := fun x => !decide (saidB ρ x = wordB q c)) (f := id) (u := aT aI) rfl hgv2 rfl (by rw [graphB_len]; exact hks9) (fun _ => rfl) (fun x xv H3 e3 hx hxv => et_test (ed_neS (ed_call2 (ed_var rfl (Mo.le e3 (Mo.mo e12 hρ))) (ed_var rfl hxv) (FF x (by rw [graph_keys] at hx; exact hx))) (ed_var (r := aS) rfl rfl))) (fun x xv H3 e3 hx hxv _ => ed_var rfl hxv)) (by rw [graph_keys, List.map_id])))) ⟨hG, hG.nd.filter _, fun x hx => (List.mem_filter.mp hx).1, hks⟩) fun wv H3 e3 ⟨tw, htw, htwn, htws⟩ => ?_
  have hgv3 := Mo.mo (r := aG) e3 hgv2
  dsimp only
  refine s_asg (ed_callP (p := ((ρ, ks), ks.filter fun x => !(look tw x).isSome)) (eA2 (r := aG) (s := aL (aT aI)) (ed_var rfl hgv3) (EdL.ed (el_is (el_lcK (s := aSt) (gr := graphB ρ ks) (t := fun x => !(look tw x).isSome) (f := id) (u := aT aI) rfl hgv3 rfl (by rw [graphB_len]; exact hks9) (fun _ => rfl) (fun x xv H3 e3 hx hxv => et_B (ed_notInD (ed_var rfl hxv) (ed_var rfl (Mo.le (r := aD aI) e3 (aU.d htw))))) (fun x xv H3 e3 hx hxv _ => ed_var rfl hxv)) (by rw [graph_keys, List.map_id])))) ⟨hG, hG.nd.filter _, fun x hx => (List.mem_filter.mp hx).1, hks⟩) fun sv H4 e4 ⟨ts, hts, htsn, htss⟩ => ?_
  dsimp only
  refine s_ret (r := aGt) (x := (ρ, ks, tw, ts)) (fun H5 e5 Q q => ea3 (r := aG) (s := aU aI) (t := aU aI) (ed_var rfl (Mo.mo (r := aG) e4 hgv3)) (ed_var rfl (Mo.mo e4 htw)) (ed_var rfl hts) H5 e5 _ fun vs H6 e6 ⟨v1, v2, v3, h1, h2, h3, h4⟩ => ⟨by rw [h1]; exact sz_of (by show 3 ≤ 100000; decide), fun p hp => q _ _ (e6.trans (Same.new hp)) ⟨p, v1, v2, v3, rfl, by rw [h1]; exact upd_same, Mo.mo (Same.new hp) h2, Mo.mo (Same.new hp) h3, Mo.mo (Same.new hp) h4⟩⟩) fun rv H5 e5 hrv => ?_
  refine kt ho rv H5 _ (((e12.trans e3).trans e4).trans e5) hrv ⟨rfl, hk, htwn, fun x => ?_, htsn, fun x => ?_⟩
  · rw [htws]
    constructor
    · rintro ⟨hx, y, hy, hr⟩
      obtain ⟨h1, h2⟩ := List.mem_filter.mp hy
      exact ⟨hx, y, h1, by simpa using h2, hr⟩
    · rintro ⟨hx, y, h1, h2, hr⟩
      exact ⟨hx, y, List.mem_filter.mpr ⟨h1, by simpa using h2⟩, hr⟩
  · rw [htss]
    constructor
    · rintro ⟨hx, y, hy, hr⟩
      obtain ⟨h1, h2⟩ := List.mem_filter.mp hy
      refine ⟨hx, y, h1, fun hm => ?_, hr⟩
      rw [look_isSome_iff.mpr hm] at h2; cases h2
    · rintro ⟨hx, y, h1, h2, hr⟩
      refine ⟨hx, y, List.mem_filter.mpr ⟨h1, ?_⟩, hr⟩
      rw [look_none_iff.mpr h2]; rfl
end
end Pg

set_option Elab.async false
set_option linter.all false
set_option maxRecDepth 100000
set_option maxHeartbeats 4000000
namespace Pg
open PySem PySem.Spec PyProof.Rows L2 Pf
/-- from wherever it comes it can come to where all say the word for good -/
def AnsP (ρ : Rule) (c : List Int) (word : Str) : Prop := ∀ x, Reach ρ c x → ∃ y, Reach ρ x y ∧ ∀ z, Reach ρ y z → saidB ρ z = word
theorem Gone.tw_no {ρ : Rule} {c : List Int} {word : Str} {ks : List (List Int)} {tw ts : Tab} (G : Gone ρ c word ks tw ts) {y : List Int} (hy : y ∈ ks) : y ∉ tw.map (·.1) ↔ ∀ z, Reach ρ y z → saidB ρ z = word := by
  rw [G.twi]
  constructor
  · intro h z hz
    refine Classical.byContradiction fun hne => h ⟨hy, z, ?_, hne, hz⟩
    exact (G.ky.1.2 z).mpr (((G.ky.1.2 y).mp hy).trans hz)
  · rintro h ⟨_, z, _, hne, hz⟩
    exact hne (h z hz)
theorem Gone.ts_in {ρ : Rule} {c : List Int} {word : Str} {ks : List (List Int)} {tw ts : Tab} (G : Gone ρ c word ks tw ts) {x : List Int} (hx : x ∈ ks) : x ∈ ts.map (·.1) ↔ ∃ y, Reach ρ x y ∧ ∀ z, Reach ρ y z → saidB ρ z = word := by
  rw [G.tsi]
  constructor
  · rintro ⟨_, y, hy, hn, hr⟩
    exact ⟨y, hr, (G.tw_no hy).mp hn⟩
  · rintro ⟨y, hr, h⟩
    have hy : y ∈ ks := (G.ky.1.2 y).mpr (((G.ky.1.2 x).mp hx).trans hr)
    exact ⟨hx, y, hy, (G.tw_no hy).mpr h, hr⟩
theorem nodup_eq {L S : List (List Int)} (hL : L.Nodup) (hs : ∀ x ∈ L, x ∈ S) (hl : S.length ≤ L.length) : ∀ x ∈ S, x ∈ L := fun x hx => by
  refine Classical.byContradiction fun hn => ?_
  have h1 := nodup_le (L := L) (S := S.erase x) hL fun y hy => (List.mem_erase_of_ne (fun e => hn (by rw [← e]; exact hy))).mpr (hs y hy)
  rw [List.length_erase_of_mem hx] at h1
  have := List.length_pos_of_mem hx
  omega
theorem Gone.ans {ρ : Rule} {c : List Int} {word : Str} {ks : List (List Int)} {tw ts : Tab} (G : Gone ρ c word ks tw ts) : ts.length = ks.length ↔ AnsP ρ c word := by
  have hsub : ∀ x ∈ ts.map (·.1), x ∈ ks := fun x hx => ((G.tsi x).mp hx).1
  constructor
  · intro h x hx
    have hk := (G.ky.1.2 x).mpr hx
    exact (G.ts_in hk).mp (nodup_eq G.tsn hsub (by rw [List.length_map]; omega) x hk)
  · intro h
    have h1 := nodup_le G.tsn hsub
    have h2 := nodup_le G.ky.1.1 fun x hx => (G.ts_in hx).mpr (h x ((G.ky.1.2 x).mp hx))
    rw [List.length_map] at h1 h2
    omega
section
variable {P : Program} {w : World} {K : PySem.W.Frag} {mg : Str → Option Value} {base : Heap}
theorem tg3 {σ : L2.St} {H : Hp} {i j k : Nat} {v : V} {p : Rule × List (List Int) × Tab × Tab} {Q : L2.St → Hp → Prop} (h : aGt H v p) (q : ∀ v1 v2 v3, aG H v1 (p.1, p.2.1) → aU aI H v2 p.2.2.1 → aU aI H v3 p.2.2.2 → Q (((σ.set i (some v1)).set j (some v2)).set k (some v3)) H) : gTup K 3 (gCons (gName i) (gCons (gName j) (gCons (gName k) gNil))) v σ H Q := by
  obtain ⟨a, x, y, z, h1, h2, h3, h4, h5⟩ := h
  exact ⟨a, _, h1, SqT.of h2, rfl, x, _, rfl, y, _, rfl, z, _, rfl, rfl, q x y z h3 h4 h5⟩
theorem ed_lenU {β : Type} {s : Rl β} {σ : L2.St} {H : Hp} {i : Nat} {v : V} {g : List (List Int × β)} (h : σ[i]? = some (some v)) (hv : aU s H v g) : Ed (tCB Pf.rLenT (tCons (tVar i) tNil)) σ H aI (g.length : Int) := by
  obtain ⟨d, kvs, rfl, hd, hp⟩ := hv
  have := ed_lenD (σ := σ) (H := H) h hd
  rw [hp.length] at this
  exact this
def PostAns (p : Arg4) (b : Bool) : Prop := b = true ↔ AnsP p.1 (begF p.1 p.2.2.1) (wordB p.2.1 p.2.2.1)
abbrev SpAns (n : Nat) (C : Addr) : Sp := SpX (A4 aR aQ (aT aI) aI) (PreGt n) OkGt aB PostAns C
theorem ok_answers (B : Bt mg) {C : Addr} {n kg : Nat} (c_gone_through : Cl P w K mg base (L2.CX P w) kg "gone_through" ["rule", "question", "counts", "limit"] [] (SpGt n C)) (d : Here K mg s_answers "answers" [.int 1000]) :
    Cl P w K mg base (L2.CX P w) (kg + 1) "answers" ["rule", "question", "counts", "limit"] [] (SpAns n C) ∧ Cl P w K mg base (L2.CX P w) (kg + 1) "answers" ["rule", "question", "counts", "limit"] [.int 1000] (SpAns n C) := by
  refine d.clXd sc_answers 3 rfl (fun _ _ _ _ _ _ _ us its h1 h2 => match us, its, h1, h2 with | [_, _, _], [_], _, _ => ⟨_, rfl, rfl⟩) (fun _ _ _ _ _ _ _ us its h1 h2 => match us, its, h1, h2 with | [_, _, _, _], [_], _, _ => ⟨_, rfl, rfl⟩) (fun _ _ _ _ ⟨_, ⟨_, _, _, _, h, _⟩, _⟩ => by rw [h]; rfl) (fun f cdv A outer s H vs Q E hr h => ?_)
  obtain ⟨⟨ρ, q, c, lim⟩, ⟨v, u, v2, v3, rfl, hρ, hq, hc, hl⟩, hp, kt, kf⟩ := h
  have hu := hu_of hr
  refine ⟨_, (pss_cons (ps_asg (pe_clS c_gone_through (hr.mono (by first | decide | omega)) (by rfl) (fun σ => passAt (W := wE E) (takes_of rfl rfl rfl rfl) σ) (pa_cons (pv 0) (pa_cons (pv 1) (pa_cons (pv 2) (pa_cons (pv 3) pa_nil))))) (pg_tup rfl (pgs_cons (pg_name (i := 4) sc_answers.nd rfl (by first | exact Or.inl rfl | exact Or.inr rfl)) (pgs_cons (pg_name (i := 5) sc_answers.nd rfl (by first | exact Or.inl rfl | exact Or.inr rfl)) (pgs_cons (pg_name (i := 6) sc_answers.nd rfl (by first | exact Or.inl rfl | exact Or.inr rfl)) pgs_nil)))))
    (pss_one (ps_ret (pe_cmpR op_eq (pe_callB call_len_dT (by rfl) B.len PySem.boot_len (pa_cons (pv 6) pa_nil)) (pe_callB call_len_dT (by rfl) B.len PySem.boot_len (pa_cons (pv 4) pa_nil)) (nomark _))))), ?_⟩
  by_cases ho : OkGt (ρ, q, c, lim)
  case neg => exact s_xasg (ex_callX (eA4 (ed_var rfl hρ) (ed_var rfl hq) (ed_var rfl hc) (ed_var rfl hl)) hp ho fun H1 e => kf ho H1 e)
  refine ed_callX (eA4 (ed_var rfl hρ) (ed_var rfl hq) (ed_var rfl hc) (ed_var rfl hl)) hp ho H (Same.refl _) _ fun gv H1 e1 ⟨⟨ρ', ks, tw, ts⟩, hgv, e, hG⟩ => ?_
  cases e
  refine tg3 hgv fun v1 v2 v3 h1 h2 h3 => ?_
  dsimp only
  refine s_ret (ed_eqI (ed_lenU rfl h3) (ed_lenU rfl h1)) fun rv H2 e2 hrv => kt ho rv H2 _ (e1.trans e2) hrv ?_
  show decide _ = true ↔ _
  rw [decide_eq_true_eq, graphB_len, Int.ofNat_inj]
  exact hG.ans
/-- a paper of an error -/
abbrev aEr : Rl (List Int × List Int × Tab) := fun H v p => ∃ a x y z, v = .ref a ∧ H a = some (.tup [x, y, z]) ∧ aT aI H x p.1 ∧ aT aI H y p.2.1 ∧ aT (aP (aT aI) aI) H z p.2.2
instance : Ms aEr := ⟨fun e ⟨a, x, y, z, h1, h2, h3, h4, h5⟩ => ⟨a, x, y, z, h1, e _ _ h2, Mo.mo e h3, Mo.mo e h4, Mo.mo e h5⟩⟩
def PostErr (p : Arg4) (o : Option (List Int × List Int × Tab)) : Prop := (o = none ∧ AnsP p.1 (begF p.1 p.2.2.1) (wordB p.2.1 p.2.2.1)) ∨
  ∃ x ns rs, o = some (p.2.2.1, ns, rs) ∧ Path p.1 (begF p.1 p.2.2.1) ns x ∧ (∀ y, Reach p.1 x y → ∃ z, Reach p.1 y z ∧ saidB p.1 z ≠ wordB p.2.1 p.2.2.1)
abbrev SpErr (n : Nat) (C : Addr) : Sp := SpX (A4 aR aQ (aT aI) aI) (fun p => PreGt n p ∧ begF p.1 p.2.2.1 ≠ []) OkGt (aO aEr) PostErr C
theorem lc_src {α : Type} {r : Rl α} {post : α → Prop} {K : PySem.W.Frag} {σ : L2.St} {H : Hp} {te te2 : TE} {g : TG} {tt : TT} {vs : List Nat} {Q : VK} (h : Ed te σ H (aE r post) ()) (f : ∀ v H1 y, Same H H1 → r H1 v y → post y → tLc (iList K (tC v)) g tt te2 vs σ H1 Q) : tLc (iList K te) g tt te2 vs σ H Q := h H (Same.refl _) _ fun v H1 e ⟨y, hy, hp⟩ => f v H1 y e hy hp
theorem s_lcSrc {α : Type} {r : Rl α} {post : α → Prop} {K : PySem.W.Frag} {σ : L2.St} {H : Hp} {te te2 : TE} {g g' : TG} {tt : TT} {vs : List Nat} {D : Ends} (h : Ed te σ H (aE r post) ()) (f : ∀ v H1 y, Same H H1 → r H1 v y → post y → tLc (iList K (tC v)) g tt te2 vs σ H1 fun v H2 => g' v σ H2 D.nx) : tAsg (tLc (iList K te) g tt te2 vs) g' D σ H := lc_src h f
theorem comes_of {ρ : Rule} {ks : List (List Int)} (G : Gr ρ ks) {x : List Int} (hx : x ∈ ks) : ∃ S, Comes ρ x S ∧ S.length ≤ ks.length := by
  classical
  refine ⟨ks.filter fun y => decide (Reach ρ x y), ⟨G.nd.filter _, fun y => ?_⟩, List.length_filter_le _ _⟩
  rw [List.mem_filter, decide_eq_true_eq]
  exact ⟨fun h => h.2, fun h => ⟨G.reach hx h, h⟩⟩
theorem fst_true (xs : List (List Int)) : (xs.map fun x => (x, true)).map (·.1) = xs := by
  induction xs with
  | nil => rfl
  | cons x r ih => simp only [List.map_cons]; rw [ih]
theorem ok_err_at (B : Bt mg) {C : Addr} {n kg : Nat} (hk4 : 4 ≤ kg) (c_graph_of : Cl P w K mg base (L2.CX P w) 4 "graph_of" ["rule", "crowd", "limit"] [] (SpGr C)) (c_row_to : Cl P w K mg base CX0 1 "row_to" ["graph", "crowd", "goals"] [] SpRow) (c_gone_through : Cl P w K mg base (L2.CX P w) kg "gone_through" ["rule", "question", "counts", "limit"] [] (SpGt n C)) (d : Here K mg s_err_at "err_at" [.int 1000]) :
    Cl P w K mg base (L2.CX P w) (kg + 1) "err_at" ["rule", "question", "counts", "limit"] [] (SpErr n C) ∧ Cl P w K mg base (L2.CX P w) (kg + 1) "err_at" ["rule", "question", "counts", "limit"] [.int 1000] (SpErr n C) := by
  refine d.clXd sc_err_at 3 rfl (fun _ _ _ _ _ _ _ us its h1 h2 => match us, its, h1, h2 with | [_, _, _], [_], _, _ => ⟨_, rfl, rfl⟩) (fun _ _ _ _ _ _ _ us its h1 h2 => match us, its, h1, h2 with | [_, _, _, _], [_], _, _ => ⟨_, rfl, rfl⟩) (fun _ _ _ _ ⟨_, ⟨_, _, _, _, h, _⟩, _⟩ => by rw [h]; rfl) (fun f cdv A outer s H vs Q E hr h => ?_)
  obtain ⟨⟨ρ, q, c, lim⟩, ⟨v, u, v2, v3, rfl, hρ, hq, hc, hl⟩, ⟨hp, hne⟩, kt, kf⟩ := h
  have hu := hu_of hr
  have hu3 := hu3_of hr
  refine ⟨_, (pss_cons (ps_asg (pe_clS c_gone_through (hr.mono (by first | decide | omega)) (by rfl) (fun σ => passAt (W := wE E) (takes_of rfl rfl rfl rfl) σ) (pa_cons (pv 0) (pa_cons (pv 1) (pa_cons (pv 2) (pa_cons (pv 3) pa_nil))))) (pg_tup rfl (pgs_cons (pg_name (i := 4) sc_err_at.nd rfl (by first | exact Or.inl rfl | exact Or.inr rfl)) (pgs_cons (pg_name (i := 5) sc_err_at.nd rfl (by first | exact Or.inl rfl | exact Or.inr rfl)) (pgs_cons (pg_name (i := 6) sc_err_at.nd rfl (by first | exact Or.inl rfl | exact Or.inr rfl)) pgs_nil)))))
    (pss_cons (ps_if (pt_cmpR op_eq (pe_callB call_len_dT (by rfl) B.len PySem.boot_len (pa_cons (pv 6) pa_nil)) (pe_callB call_len_dT (by rfl) B.len PySem.boot_len (pa_cons (pv 4) pa_nil)) (nomark _)) (pss_one (ps_ret pe_non)) pss_nil)
    (pss_cons (ps_set (i := 7) sc_err_at.nd rfl (by first | exact Or.inl rfl | exact Or.inr rfl) (pe_callTy (call_dictT rfl hu3) (by rfl) B.dict (by decide +kernel) (pa_cons (pe_lock (pe_lc (own := [("crowd", 10)]) (g := (gName 10)) (tt := (tB (tDNotIn (tVar 10) (tVar 6)))) (te := (tTup (tCons (tVar 10) (tCons (tC _) tNil)))) rfl sc_err_at.nd (pi_keys (pv 4)) (blkOk_by (own := [("crowd", 10)]) (N := ["rule", "question", "counts", "limit", "graph", "to_wrong", "to_settled", "lost", "begin", "numbers", "crowd", "ranks", "one"]) (sc := defScope s_err_at) (by decide +kernel)) (fun _ _ _ _ _ => by exact (pg_name (i := 10) sc_err_at.nd rfl (by first | exact Or.inl rfl | exact Or.inr rfl))) (fun _ _ _ _ _ => by exact (pts_one (pt_cmp (pc_dnotin hu (pv 10) (pv 6)) (by rfl)))) (fun _ _ _ _ _ => by exact (pe_tup (pa_cons (pv 10) (pa_cons pe_bl pa_nil)))))) pa_nil)))
    (pss_cons (ps_set (i := 8) sc_err_at.nd rfl (by first | exact Or.inl rfl | exact Or.inr rfl) (pe_ix ix_list (pe_callTy (call_list_dT rfl) (by rfl) B.list (by decide +kernel) (pa_cons (pv 4) pa_nil)) pe_int (fun _ _ => rfl)))
    (pss_cons (ps_asg (pe_cl c_row_to (hr.mono (by first | decide | omega)) (by rfl) pass0 (pa_cons (pv 4) (pa_cons (pv 8) (pa_cons (pv 7) pa_nil)))) (pg_tup rfl (pgs_cons (pg_name (i := 9) sc_err_at.nd rfl (by first | exact Or.inl rfl | exact Or.inr rfl)) (pgs_cons (pg_name (i := 10) sc_err_at.nd rfl (by first | exact Or.inl rfl | exact Or.inr rfl)) pgs_nil))))
    (pss_cons (ps_setLc (i := 11) (own := [("one", 12)]) (g := (gName 12)) (tt := tYes) (te := (tTup (tCons (tVar 12) (tCons (tDGet (tVar 5) (tVar 12)) tNil)))) rfl sc_err_at.nd rfl rfl (sw_true rfl rfl rfl (by decide +kernel)) (pi_list (pe_callB (cr_sortedD hr.units rfl) (by rfl) B.sorted (by decide +kernel) (pa_cons (pe_clS c_graph_of (hr.mono (by first | decide | omega)) (by rfl) (fun σ => passAt (W := wE E) (takes_of rfl rfl rfl rfl) σ) (pa_cons (pv 0) (pa_cons (pv 10) (pa_cons (pv 3) pa_nil)))) pa_nil))) (blkOk_by (own := [("one", 12)]) (N := ["rule", "question", "counts", "limit", "graph", "to_wrong", "to_settled", "lost", "begin", "numbers", "crowd", "ranks", "one"]) (sc := defScope s_err_at) (by decide +kernel)) (fun _ _ _ _ _ => by exact (pg_name (i := 12) sc_err_at.nd rfl (by first | exact Or.inl rfl | exact Or.inr rfl))) (fun _ _ _ _ _ => by exact pts_nil) (fun _ _ _ _ _ => by exact (pe_tup (pa_cons (pv 12) (pa_cons (pe_dget hu (pv 5) (pv 12) (fun _ _ => rfl)) pa_nil)))))
    (pss_one (ps_ret (pe_tup (pa_cons (pv 2) (pa_cons (pe_callTy call_tuple_of (by rfl) B.tuple (by decide +kernel) (pa_cons (pv 9) pa_nil)) (pa_cons (pe_callTy call_tuple_of (by rfl) B.tuple (by decide +kernel) (pa_cons (pv 11) pa_nil)) pa_nil)))))))))))), ?_⟩
  by_cases ho : OkGt (ρ, q, c, lim)
  case neg => exact s_xasg (ex_callX (eA4 (ed_var rfl hρ) (ed_var rfl hq) (ed_var rfl hc) (ed_var rfl hl)) hp ho fun H1 e => kf ho H1 e)
  refine ed_callX (eA4 (ed_var rfl hρ) (ed_var rfl hq) (ed_var rfl hc) (ed_var rfl hl)) hp ho H (Same.refl _) _ fun gv H1 e1 ⟨⟨ρ', ks, tw, ts⟩, hgv, e, hG⟩ => ?_
  cases e
  have hG : Gone ρ (begF ρ c) (wordB q c) ks tw ts := hG
  refine tg3 hgv fun v1 v2 v3 h1 h2 h3 => ?_
  have h1 : aG H1 v1 (ρ, ks) := h1
  have h2 : aU aI H1 v2 tw := h2
  have h3 : aU aI H1 v3 ts := h3
  have hGr := hG.ky.gr hp.2.1
  have hks9 : ks.length ≤ 90000 := hGr.few
  dsimp only
  refine s_if (et_test (ed_eqI (ed_lenU rfl h3) (ed_lenU rfl h1))) (fun hb H2 e2 => ?_) (fun hb H2 e2 => ?_)
  · have hb' : ts.length = ks.length := by
      have := of_decide_eq_true hb
      rw [graphB_len] at this; exact Int.ofNat_inj.mp this
    exact s_ret (r := aO aEr) (x := none) ed_non fun rv H3 e3 hrv => kt ho rv H3 none ((e1.trans e2).trans e3) hrv (Or.inl ⟨rfl, hG.ans.mp hb'⟩)
  · have hb' : ¬ ts.length = ks.length := by
      intro h
      have := of_decide_eq_false hb
      rw [graphB_len] at this; exact this (Int.ofNat_inj.mpr h)
    obtain ⟨x0, hx0, hx0n⟩ : ∃ x, x ∈ ks ∧ x ∉ ts.map (·.1) := by
      refine Classical.byContradiction fun h => hb' ?_
      have hall : ∀ x ∈ ks, x ∈ ts.map (·.1) := fun x hx => Classical.byContradiction fun hn => h ⟨x, hx, hn⟩
      have a1 := nodup_le hG.ky.1.1 hall
      have a2 := nodup_le hG.tsn fun x hx => ((hG.tsi x).mp hx).1
      rw [List.length_map] at a1 a2; omega
    have g1 := Mo.mo (r := aG) e2 h1
    dsimp only
    refine s_asgD (s := aB) (gr := (ks.filter fun x => !(look ts x).isSome).map fun x => (x, true)) (d_dict (EdL.ed (el_is (el_lcK (s := aSt) (gr := graphB ρ ks) (t := fun x => !(look ts x).isSome) (f := fun x => (x, true)) (u := aP (aT aI) aB) rfl g1 rfl (by rw [graphB_len]; exact hks9) (fun _ => rfl) (fun x xv H3 e3 hx hxv => et_B (ed_notInD (ed_var rfl hxv) (ed_var rfl (Mo.le (r := aD aI) e3 (Mo.mo e2 (aU.d h3)))))) (fun x xv H3 e3 hx hxv _ => ed_pair (ed_var rfl hxv) ed_b)) (by rw [graph_keys]))) (by rw [fst_true]; exact hGr.nd.filter _)) fun lo lkv H3 hlo0 e3 hlo hlop => ?_
    have g2 := Mo.mo (r := aG) e3 g1
    obtain ⟨t0, ht0⟩ := hG.ky.2
    dsimp only
    refine s_asg (ed_ixL (x := begF ρ c) (EdL.ed (el_listD (s := aSt) (gr := graphB ρ ks) (ed_var rfl (aU.d g2)))) ed_i (by rw [graph_keys, ht0]; exact atI_nat (j := 0) rfl)) fun bv H4 e4 hbv => ?_
    have hlD : aD aB H4 (.ref lo) ((ks.filter fun x => !(look ts x).isSome).map fun x => (x, true)) := ⟨lo, lkv, rfl, Rd.of (e4 _ _ hlo), kvP_same e4 hlop⟩
    have hck : begF ρ c ∈ ks := by rw [ht0]; exact List.mem_cons_self ..
    refine ed_callP (p := ((ρ, ks), begF ρ c, (ks.filter fun x => !(look ts x).isSome).map fun x => (x, true))) (eA3 (r := aG) (ed_var rfl (Mo.mo (r := aG) e4 g2)) (ed_var rfl hbv) (ed_var rfl hlD)) ⟨hGr, hck, x0, (hG.ky.1.2 x0).mp hx0, by rw [fst_true]; exact List.mem_filter.mpr ⟨hx0, by rw [look_none_iff.mpr hx0n]; rfl⟩⟩ H4 (Same.refl _) _ fun pv H5 e5 ⟨⟨ns, x⟩, hpv, hpath, hxl, hnl⟩ => ?_
    have hnl' : ns.length ≤ ks.length := hnl
    have hxl' : x ∈ ks ∧ x ∉ ts.map (·.1) := by
      have h := hxl
      rw [fst_true] at h
      obtain ⟨a1, a2⟩ := List.mem_filter.mp h
      refine ⟨a1, fun hm => ?_⟩
      rw [look_isSome_iff.mpr hm] at a2; cases a2
    refine tg2 hpv fun nv xv hnv hxv => ?_
    obtain ⟨S, hS, hSl⟩ := comes_of hGr hxl'.1
    have PGx : PreG (ρ, x, lim) := ⟨hp.2.1.1.reach ((hG.ky.1.2 x).mp hxl'.1), S, hS, by omega⟩
    have oGx : OkG (ρ, x, lim) := by
      obtain ⟨S', hS', hl'⟩ := ho
      have := comes_len hG.ky.1 hS'
      exact ⟨S, hS, by show (S.length : Int) ≤ lim; have : (S'.length : Int) ≤ lim := hl'; omega⟩
    have e05 := (((e1.trans e2).trans e3).trans e4).trans e5
    have twin : ∀ z, Reach ρ x z → z ∈ ks ∧ z ∈ tw.map (·.1) := fun z hz => by
      have hzk := hGr.reach hxl'.1 hz
      refine ⟨hzk, Classical.byContradiction fun hn => hxl'.2 ((hG.tsi x).mpr ⟨hxl'.1, z, hzk, hn, hz⟩)⟩
    have hxne : x ≠ [] := ne_reach hne ((hG.ky.1.2 x).mp hxl'.1)
    dsimp only
    refine s_lcSrc (r := aL (aT aI)) (post := PostC (ρ, x, lim)) (ed_cbE (r := aU aSt) (post := PostG (ρ, x, lim)) (ed_callX (p := (ρ, x, lim)) (eA3 (r := aR) (s := aT aI) (t := aI) (ed_var rfl (Mo.mo e05 hρ)) (ed_var rfl hxv) (ed_var rfl hl)) PGx oGx) fun g te' H' e ⟨ks', hg, hk⟩ h => ed_toE (post := PostC (ρ, x, lim)) ((el_sortedD (gr := g) (fun H1 e1 Q q => h H1 e1 Q fun v H2 e2 hv => q v H2 e2 (aU.d hv)) ?_).ed) ?_) fun wv H6 xs e6 hxs ⟨ks', hk', hxe⟩ => ?_
    · intro p hp'
      rw [hg] at hp'
      obtain ⟨z, hz, rfl⟩ := List.mem_map.mp hp'
      exact ne_reach hxne ((hk.1.2 z).mp hz)
    · refine ⟨ks', hk, ?_⟩
      rw [hg, graph_keys]
    · have hxm : ∀ z ∈ xs, z ∈ ks ∧ z ∈ tw.map (·.1) := fun z hz => by
        rw [hxe, mem_sortC] at hz
        exact twin z ((hk'.1.2 z).mp hz)
      have hxl9 : xs.length ≤ 90000 := by
        rw [hxe, length_sortC]
        have := nodup_le hk'.1.1 fun z hz => (twin z ((hk'.1.2 z).mp hz)).1
        omega
      have h26 := Mo.mo ((((e2.trans e3).trans e4).trans e5).trans e6) h2
      refine (EdL.ed (el_lc1 (t := fun _ => true) (f := fun z => (z, (look tw z).getD 0)) (u := aP (aT aI) aI) (src_list (ed_v hxs)) hxl9 (fun _ => rfl) (fun z zv H7 e7 hz hzv => et_yes) (fun z zv H7 e7 hz hzv _ => ed_pair (ed_var rfl hzv) (ed_ixD (s := aI) (g := tw) (ed_var rfl (Mo.mo e7 (aU.d h26))) (ed_var rfl hzv) ?_)))) H6 (Same.refl _) _ fun rv H7 e7 hrv => ?_
      · have : (look tw z).isSome = true := look_isSome_iff.mpr (hxm z hz).2
        obtain ⟨k0, hk0⟩ := Option.isSome_iff_exists.mp this
        rw [hk0]; rfl
      · dsimp only
        refine s_ret (r := aO aEr) (x := some (c, ns, (xs.filter fun _ => true).map fun z => (z, (look tw z).getD 0))) (fun H8 e8 Q q => ea3 (r := aT aI) (s := aT aI) (t := aT (aP (aT aI) aI)) (ed_var rfl (Mo.mo ((e05.trans e6).trans e7) hc)) (ed_tupL (ed_var rfl (Mo.mo (e6.trans e7) hnv))) (ed_tupL (ed_var rfl hrv)) H8 e8 _ fun vs H9 e9 ⟨w1, w2, w3, g1, g2, g3, g4⟩ => ⟨by rw [g1]; exact sz_of (by show 3 ≤ 100000; decide), fun p hp => q _ _ (e9.trans (Same.new hp)) ⟨⟨p, w1, w2, w3, rfl, by rw [g1]; exact upd_same, Mo.mo (Same.new hp) g2, Mo.mo (Same.new hp) g3, Mo.mo (Same.new hp) g4⟩, fun z => nomatch z⟩⟩) fun rv H8 e8 hrv => ?_
        refine kt ho rv H8 _ (((e05.trans e6).trans e7).trans e8) hrv (Or.inr ⟨x, ns, _, rfl, hpath, fun y hy => ?_⟩)
        obtain ⟨_, z, hz, hzw, hr⟩ := (hG.twi y).mp (twin y hy).2
        exact ⟨z, hr, hzw⟩
end
end Pg

set_option Elab.async false
set_option linter.all false
set_option maxRecDepth 100000
set_option maxHeartbeats 4000000
namespace Pg
open PySem PySem.Spec PyProof.Rows L2 Pf
def allB (W : List Str) (z : Str) : Bool := (W.map fun x => decide (x = z)).all id
def setB (W : List Str) : Option Bool := if allB W "yes" = true then some true else if allB W "no" = true then some false else none
section
variable {P : Program} {w : World} {K : PySem.W.Frag} {mg : Str → Option Value} {base : Heap}
def PostSet (p : Rule × List Int × Int) (o : Option Bool) : Prop := ∃ ks, KeysG p.1 p.2.1 ks ∧ o = setB ((sortC ks).map (saidB p.1))
abbrev SpSet (C : Addr) : Sp := SpX (A3 aR (aT aI) aI) PreC OkG (aO aB) PostSet C
theorem ok_settled (B : Bt mg) {C : Addr} (c_said : Cl P w K mg base CX0 1 "said" ["rule", "crowd"] [] SpSaid) (c_come : Cl P w K mg base (L2.CX P w) 5 "come" ["rule", "crowd", "limit"] [] (SpCome C)) (d : Here K mg s_settled "settled" [.int 1000]) :
    Cl P w K mg base (L2.CX P w) 6 "settled" ["rule", "crowd", "limit"] [] (SpSet C) ∧ Cl P w K mg base (L2.CX P w) 6 "settled" ["rule", "crowd", "limit"] [.int 1000] (SpSet C) := by
  refine d.clXd sc_settled 2 rfl (fun _ _ _ _ _ _ _ us its h1 h2 => match us, its, h1, h2 with | [_, _], [_], _, _ => ⟨_, rfl, rfl⟩) (fun _ _ _ _ _ _ _ us its h1 h2 => match us, its, h1, h2 with | [_, _, _], [_], _, _ => ⟨_, rfl, rfl⟩) (fun _ _ _ _ ⟨_, ⟨_, _, _, h, _⟩, _⟩ => by rw [h]; rfl) (fun f cdv A outer s H vs Q E hr h => ?_)
  obtain ⟨⟨ρ, c, lim⟩, ⟨v, u, w, rfl, hρ, hc, hw⟩, hp, kt, kf⟩ := h
  have hu := hu_of hr
  refine ⟨_, (pss_cons (ps_setLc (i := 3) (own := [("one", 6)]) (g := (gName 6)) (tt := tYes) (te := (tCall _ _ _ (tCons (tVar 0) (tCons (tVar 6) tNil)))) rfl sc_settled.nd rfl rfl (sw_true rfl rfl rfl (by decide +kernel)) (pi_list (pe_clS c_come (hr.mono (by first | decide | omega)) (by rfl) (fun σ => passAt (W := wE E) (takes_of rfl rfl rfl rfl) σ) (pa_cons (pv 0) (pa_cons (pv 1) (pa_cons (pv 2) pa_nil))))) (blkOk_by (own := [("one", 6)]) (N := ["rule", "crowd", "limit", "words", "word", "truth", "one"]) (sc := defScope s_settled) (by decide +kernel)) (fun _ _ _ _ _ => by exact (pg_name (i := 6) sc_settled.nd rfl (by first | exact Or.inl rfl | exact Or.inr rfl))) (fun _ _ _ _ _ => by exact pts_nil) (fun _ _ _ _ _ => by exact (pe_cl c_said (hr.mono (by first | decide | omega)) (by rfl) pass0 (pa_cons (pv 0) (pa_cons (pv 6) pa_nil)))))
    (pss_cons (ps_for (passes_of rfl) rfl (pi_tup (pe_tup (pa_cons (pe_tup (pa_cons pe_str (pa_cons pe_bl pa_nil))) (pa_cons (pe_tup (pa_cons pe_str (pa_cons pe_bl pa_nil))) pa_nil)))) (pg_tup rfl (pgs_cons (pg_name (i := 4) sc_settled.nd rfl (by first | exact Or.inl rfl | exact Or.inr rfl)) (pgs_cons (pg_name (i := 5) sc_settled.nd rfl (by first | exact Or.inl rfl | exact Or.inr rfl)) pgs_nil)))
    (pss_one (ps_if (pt_val (pe_callB (cr_all rfl) (by rfl) B.all (by decide +kernel) (pa_cons (pe_lc (own := [("one", 6)]) (g := (gName 6)) (tt := tYes) (te := (tOp _ (tVar 6) (tVar 4))) rfl sc_settled.nd (pi_list (pv 3)) (blkOk_by (own := [("one", 6)]) (N := ["rule", "crowd", "limit", "words", "word", "truth", "one"]) (sc := defScope s_settled) (by decide +kernel)) (fun _ _ _ _ _ => by exact (pg_name (i := 6) sc_settled.nd rfl (by first | exact Or.inl rfl | exact Or.inr rfl))) (fun _ _ _ _ _ => by exact pts_nil) (fun _ _ _ _ _ => by exact (pe_cmpR op_eq (pv 6) (pv 4) (nomark _)))) pa_nil))) (pss_one (ps_ret (pv 5))) pss_nil)))
    (pss_one (ps_ret pe_non)))), ?_⟩
  by_cases ho : OkG (ρ, c, lim)
  case neg => exact ex_callX (p := (ρ, c, lim)) (eA3 (ed_var rfl hρ) (ed_var rfl hc) (ed_var rfl hw)) hp ho (fun H1 e => kf ho H1 e) H (Same.refl _) _
  refine s_lcSrc (r := aL (aT aI)) (post := PostC (ρ, c, lim)) (ed_callX (p := (ρ, c, lim)) (eA3 (ed_var rfl hρ) (ed_var rfl hc) (ed_var rfl hw)) hp ho) fun lv H1 xs e1 hxs ⟨ks, hk, hxe⟩ => ?_
  have hxl9 : xs.length ≤ 90000 := by
    rw [hxe, length_sortC]
    exact (hk.gr hp.1).few
  have hxm : ∀ x ∈ xs, Fits ρ x := fun x hx => by
    rw [hxe, mem_sortC] at hx
    exact hp.1.1.reach ((hk.1.2 x).mp hx)
  refine (EdL.ed (el_is (el_lc1 (t := fun _ => true) (f := saidB ρ) (u := aS) (src_list (ed_v hxs)) hxl9 (fun _ => rfl) (fun z zv H7 e7 hz hzv => et_yes) (fun z zv H7 e7 hz hzv _ => ed_call2 (ed_var rfl (Mo.mo (e1.trans e7) hρ)) (ed_var rfl hzv) (hxm z hz))) (by rw [List.filter_eq_self.mpr (fun _ _ => rfl)]))) H1 (Same.refl _) _ fun wv H2 e2 hwv => ?_
  dsimp only
  have hwl : (xs.map (saidB ρ)).length ≤ 90000 := by rw [List.length_map]; exact hxl9
  generalize hWe : xs.map (saidB ρ) = W at hwv hwl
  have hWW : W = (sortC ks).map (saidB ρ) := by rw [← hWe, hxe]
  refine s_forS (r := aP aS aB) (xs := [(("yes" : Str), true), ("no", false)]) (srcT_tup (ed_tup (eal_cons (ed_pair ed_s ed_b) (eal_cons (ed_pair ed_s ed_b) eal_nil)) (by show 2 ≤ 100000; decide)))
    (fun i σ' H' => ∃ s4 s5, σ' = [some v, some u, some w, some wv, s4, s5, none] ∧ Same H2 H' ∧ (1 ≤ i → allB W "yes" = false) ∧ (2 ≤ i → allB W "no" = false)) (fun H3 e3 => ⟨none, none, rfl, e3, fun h => by omega, fun h => by omega⟩) ?_ ?_
  · rintro H3 i x xv σ' H4 H5 e3 hxi ⟨s4, s5, rfl, sm, hy1, hy2⟩ hts e5 hxv
    refine tg2 hxv fun v1 v2 h1 h2 => ?_
    cases h1; cases h2
    dsimp only
    have hsm := sm.trans e5
    refine s_if (b := allB W x.1) (et_B (ed_allL (EdL.ed (el_is (el_lc1 (t := fun _ => true) (f := fun y => decide (y = x.1)) (u := aB) (r := aS) (src_list (ed_var rfl (Mo.mo hsm hwv))) hwl (fun _ => rfl) (fun z zv H7 e7 hz hzv => et_yes) (fun z zv H7 e7 hz hzv _ => ed_eqS (ed_var rfl hzv) (ed_var (r := aS) rfl rfl))) (by rw [List.filter_eq_self.mpr (fun _ _ => rfl)]))))) (fun hb H6 e6 => ?_) (fun hb H6 e6 => ?_)
    · refine s_ret (r := aO aB) (x := some x.2) (ed_var rfl ⟨rfl, fun z => nomatch z⟩) fun rv H7 e7 hrv => ?_
      refine kt ho rv H7 _ ((((e1.trans e2).trans hsm).trans e6).trans e7) hrv ⟨ks, hk, ?_⟩
      show some x.2 = setB _
      rw [← hWW]
      unfold setB
      match i, hxi with
      | 0, hxi => cases hxi; rw [if_pos hb]
      | 1, hxi => cases hxi; rw [if_neg (by rw [hy1 (Nat.le_refl _)]; decide), if_pos hb]
      | i + 2, hxi => simp at hxi
    · refine ⟨⟨_, _, rfl, hsm.trans e6, fun hi => ?_, fun hi => ?_⟩, hts.trans (TSm.of (e5.trans e6))⟩
      · match i, hxi with
        | 0, hxi => cases hxi; exact hb
        | i + 1, hxi => exact hy1 (by omega)
      · match i, hxi with
        | 0, hxi => omega
        | 1, hxi => cases hxi; exact hb
        | i + 2, hxi => simp at hxi
  · rintro σ' H3 ⟨s4, s5, rfl, sm, hy1, hy2⟩
    dsimp only
    refine s_ret (r := aO aB) (x := none) ed_non fun rv H4 e4 hrv => ?_
    refine kt ho rv H4 _ (((e1.trans e2).trans sm).trans e4) hrv ⟨ks, hk, ?_⟩
    show none = setB _
    rw [← hWW]
    unfold setB
    rw [if_neg (by rw [hy1 (by decide)]; decide), if_neg (by rw [hy2 (by decide)]; decide)]
def rowsB (hands : Int) : Nat → List (List Int)
  | 0 => [[]]
  | n + 1 => (rowsB hands n).flatMap fun row => (rg 0 (hands - row.sum + 1).toNat).map fun many => row ++ [many]
def beginB (sorts : Nat) (hands : Int) : List (List Int) := (rowsB hands (sorts - 1)).map fun row => row ++ [hands - row.sum]
theorem rows_mem (hands : Int) (h0 : 0 ≤ hands) : ∀ (n : Nat) (row : List Int), row ∈ rowsB hands n → row.length = n ∧ 0 ≤ row.sum ∧ row.sum ≤ hands
  | 0, row, h => by
    have : row = [] := List.mem_singleton.mp h
    subst this
    exact ⟨rfl, by simp, by simpa using h0⟩
  | n + 1, row, h => by
    obtain ⟨r0, hr0, hm⟩ := List.mem_flatMap.mp h
    obtain ⟨many, hmm, rfl⟩ := List.mem_map.mp hm
    obtain ⟨h1, h2, h3⟩ := rows_mem hands h0 n r0 hr0
    obtain ⟨i, hi⟩ := List.mem_iff_getElem?.mp hmm
    obtain ⟨g1, g2⟩ := rg_get hi
    refine ⟨by rw [List.length_append, h1]; rfl, ?_, ?_⟩
    · rw [List.sum_append]; simp; omega
    · rw [List.sum_append]; simp; omega
theorem flat_take {α β : Type} (f : α → List β) (xs : List α) (j : Nat) : ((xs.take j).flatMap f).length ≤ (xs.flatMap f).length := by
  have : xs.flatMap f = (xs.take j).flatMap f ++ (xs.drop j).flatMap f := by rw [← List.flatMap_append, List.take_append_drop]
  rw [this, List.length_append]; omega
theorem flat_snoc {α β : Type} {f : α → List β} {xs : List α} {j : Nat} {x : α} (h : xs[j]? = some x) : (xs.take (j + 1)).flatMap f = (xs.take j).flatMap f ++ f x := by
  have e : xs.take (j + 1) = xs.take j ++ [x] := by rw [List.take_succ, h]; rfl
  rw [e, List.flatMap_append]; simp
def PreB (sorts hands : Int) : Prop := 1 ≤ sorts ∧ sorts ≤ 80000 ∧ 0 ≤ hands ∧ hands ≤ 80000 ∧ ∀ i, i ≤ sorts.toNat - 1 → (rowsB hands i).length ≤ 90000
abbrev SpBeg : Sp := Sp2 aI aI PreB (aL (aT aI)) (fun sorts hands => beginB sorts.toNat hands)
theorem ok_beginnings (B : Bt mg) (d : Here K mg s_beginnings "beginnings" []) : Cl P w K mg base CX0 1 "beginnings" ["sorts", "hands"] [] SpBeg := by
  refine d.cl sc_beginnings (fun _ _ _ _ _ _ us hl => match us, hl with | [_, _], _ => rfl) len2 (fun f cdv A outer s H vs Q E hr h => ?_)
  obtain ⟨v, u, so, ha, rfl, hso, hha, ⟨b1, b2, b3, b4, b5⟩, k⟩ := h
  cases hso; cases hha
  have hu := hu_of hr
  refine ⟨_, (pss_cons (ps_set (i := 2) sc_beginnings.nd rfl (by first | exact Or.inl rfl | exact Or.inr rfl) (pe_lst (pa_cons (pe_tup pa_nil) pa_nil)))
    (pss_cons (ps_for PassesOwn.never rfl (pi_range1 rfl B.range (pa_cons (pe_op op_sub (pv 0) pe_int) pa_nil)) (pg_name (i := 3) sc_beginnings.nd rfl (by first | exact Or.inl rfl | exact Or.inr rfl))
    (pss_cons (ps_set (i := 4) sc_beginnings.nd rfl (by first | exact Or.inl rfl | exact Or.inr rfl) (pe_lst pa_nil))
    (pss_cons (ps_for PassesOwn.never rfl (pi_list (pv 2)) (pg_name (i := 5) sc_beginnings.nd rfl (by first | exact Or.inl rfl | exact Or.inr rfl))
    (pss_one (ps_expr (pe_bm PySem.F.plainAttrs_list PySem.F.slot_list_extend PySem.F.type_list_extend mt_extend (pv 4) (pa_cons (pe_lc (own := [("many", 6)]) (g := (gName 6)) (tt := tYes) (te := (tOp (rCatA K) (tVar 5) (tTup (tCons (tVar 6) tNil)))) rfl sc_beginnings.nd (pi_range1 rfl B.range (pa_cons (pe_op op_add (pe_op op_sub (pv 1) (pe_callB (cr_sumT rfl) (by rfl) B.sum (by decide +kernel) (pa_cons (pv 5) pa_nil))) pe_int) pa_nil)) (blkOk_by (own := [("many", 6)]) (N := ["sorts", "hands", "rows", "sort", "longer", "row", "many"]) (sc := defScope s_beginnings) (by decide +kernel)) (fun _ _ _ _ _ => by exact (pg_name (i := 6) sc_beginnings.nd rfl (by first | exact Or.inl rfl | exact Or.inr rfl))) (fun _ _ _ _ _ => by exact pts_nil) (fun _ _ _ _ _ => by exact (pe_op op_catA (pv 5) (pe_tup (pa_cons (pv 6) pa_nil))))) pa_nil)))))
    (pss_one (ps_set (i := 2) sc_beginnings.nd rfl (by first | exact Or.inl rfl | exact Or.inr rfl) (pv 4))))))
    (pss_one (ps_ret (pe_lc (own := [("row", 5)]) (g := (gName 5)) (tt := tYes) (te := (tOp (rCatA K) (tVar 5) (tTup (tCons (tOp _ (tVar 1) (tCB (rSumT K) (tCons (tVar 5) tNil))) tNil)))) rfl sc_beginnings.nd (pi_list (pv 2)) (blkOk_by (own := [("row", 5)]) (N := ["sorts", "hands", "rows", "sort", "longer", "row", "many"]) (sc := defScope s_beginnings) (by decide +kernel)) (fun _ _ _ _ _ => by exact (pg_name (i := 5) sc_beginnings.nd rfl (by first | exact Or.inl rfl | exact Or.inr rfl))) (fun _ _ _ _ _ => by exact pts_nil) (fun _ _ _ _ _ => by exact (pe_op op_catA (pv 5) (pe_tup (pa_cons (pe_op op_sub (pv 1) (pe_callB (cr_sumT rfl) (by rfl) B.sum (by decide +kernel) (pa_cons (pv 5) pa_nil))) pa_nil))))))))), ?_⟩
  have elem : ∀ {σ : L2.St} {H' : Hp} {rv : V} {row : List Int} {te : TE} {y : Int} {i : Nat}, σ[5]? = some (some rv) → aT aI H' rv row → row.length ≤ 80000 → Ed te σ H' aI y → Ed (tOp (rCatA K) (tVar 5) (tTup (tCons te tNil))) σ H' (aT aI) (row ++ [y]) :=
    fun h1 h2 h3 h4 => ed_catT (ed_var h1 h2) (ed_tup (eal_cons h4 eal_nil) (by show 1 ≤ 100000; decide)) (by show _ + 1 ≤ 100000; omega)
  refine s_asg (r := aL (aT aI)) (x := rowsB ha 0) (EdL.ed (el_lst (eal_cons (ed_tup (r := aI) eal_nil (by show 0 ≤ 100000; decide)) eal_nil) (by show 1 ≤ 100000; decide))) fun rv0 H1 e1 hrv0 => ?_
  refine s_forR1 (n := so - 1) (ed_sub (ed_var (r := aI) rfl rfl) ed_i) (by omega) (by omega) (fun i σ' H' => ∃ s3 s4 s5 rv, σ' = [some (.int so), some (.int ha), some rv, s3, s4, s5, none] ∧ Same H H' ∧ aL (aT aI) H' rv (rowsB ha i)) (fun H2 e2 => ⟨none, none, none, rv0, rfl, e1.trans e2, Mo.mo e2 hrv0⟩) ?_ ?_
  · rintro i σ' H2 hi ⟨s3, s4, s5, rv, rfl, sm, hrv⟩
    have hlen : (rowsB ha (i + 1)).length ≤ 90000 := b5 (i + 1) (by omega)
    have hlen0 : (rowsB ha i).length ≤ 90000 := b5 i (by omega)
    refine s_asgL (r := aT aI) el_nil fun l ws H3 hl0 e3 hl hlp => ?_
    cases hlp
    refine s_forH (H0 := H2) (r := aT aI) (ed_var rfl (show aAt (aL (aT aI)) H2 H3 rv (rowsB ha i) from hrv)) (fun j σ' H' => ∃ s5 ws, σ' = [some (.int so), some (.int ha), some rv, some (.int (i : Int)), some (.ref l), s5, none] ∧ Same H2 H' ∧ H' l = some (.lst ws) ∧ Paired (aT aI H') ws (((rowsB ha i).take j).flatMap fun row => (rg 0 (ha - row.sum + 1).toNat).map fun many => row ++ [many]))
      (fun H4 e4 => ⟨s5, [], rfl, e3.trans e4, e4 _ _ hl, by rw [List.take_zero]; exact .nil⟩) (fun j σ' H' ⟨_, _, _, h, _⟩ => h) ?_ ?_
    · rintro j row rowv σ' H4 hj ⟨s5, ws, rfl, sm4, hl4, hp4⟩ hrow
      obtain ⟨r1, r2, r3⟩ := rows_mem ha b3 i row (List.mem_of_getElem? hj)
      have hfl := flat_take (fun row : List Int => (rg 0 (ha - row.sum + 1).toNat).map fun many => row ++ [many]) (rowsB ha i) (j + 1)
      rw [flat_snoc hj, List.length_append, List.length_map, rg_length] at hfl
      have hpl := hp4.length
      have hfl' : (rowsB ha (i + 1)).length = ((rowsB ha i).flatMap fun row => (rg 0 (ha - row.sum + 1).toNat).map fun many => row ++ [many]).length := rfl
      refine s_ext (r := aT aI) (ys := (rg 0 (ha - row.sum + 1).toNat).map fun many => row ++ [many]) hl4 (ed_ref rfl) (EdL.ed (el_is (el_lc1 (t := fun _ => true) (f := fun many => row ++ [many]) (u := aT aI) (src_rg1 (n := ha - row.sum + 1) (ed_add (ed_sub (ed_var (r := aI) rfl rfl) (ed_sumT (ed_var rfl hrow))) ed_i) (by omega) (by omega)) (by rw [rg_length]; omega) (fun _ => rfl) (fun z zv H7 e7 hz hzv => et_yes) (fun z zv H7 e7 hz hzv _ => elem (i := i) rfl (Mo.mo e7 hrow) (by omega) (ed_var rfl hzv))) (by rw [List.filter_eq_self.mpr (fun _ _ => rfl)]))) (by rw [List.length_map, rg_length]; omega) fun us H5 e5 hus => ?_
      have hl5 := e5 _ _ hl4
      refine ⟨_, ws ++ us, rfl, Same.mut (sm4.trans e5) hl0, upd_same, ?_⟩
      rw [flat_snoc hj]
      exact Paired.app (Paired.imp hp4 fun _ _ q => Im.upL hl5 (Mo.mo e5 q)) (Paired.imp hus fun _ _ q => Im.upL hl5 q)
    · rintro σ' H4 ⟨s5, ws, rfl, sm4, hl4, hp4⟩
      rw [List.take_length] at hp4
      dsimp only
      refine s_asg (r := aL (aT aI)) (x := rowsB ha (i + 1)) (ed_var rfl ⟨l, ws, rfl, hl4, hp4⟩) fun rv' H5 e5 hrv' => ?_
      exact ⟨_, _, _, rv', rfl, (sm.trans sm4).trans e5, hrv'⟩
  · rintro σ' H2 ⟨s3, s4, s5, rv, rfl, sm, hrv⟩
    have e0 : (so - 1).toNat = so.toNat - 1 := by omega
    rw [e0] at hrv
    have hlen0 : (rowsB ha (so.toNat - 1)).length ≤ 90000 := b5 _ (Nat.le_refl _)
    dsimp only
    refine s_ret (EdL.ed (el_is (el_lc1 (t := fun _ => true) (f := fun row => row ++ [ha - row.sum]) (u := aT aI) (src_list (ed_var rfl hrv)) hlen0 (fun _ => rfl) (fun z zv H7 e7 hz hzv => et_yes) (fun z zv H7 e7 hz hzv _ => elem (i := 0) rfl hzv ?_ (ed_sub (ed_var (r := aI) rfl rfl) (ed_sumT (ed_var rfl hzv))))) (by rw [List.filter_eq_self.mpr (fun _ _ => rfl)]; rfl))) fun rv H3 e3 hrv => k rv H3 (sm.trans e3) hrv
    have := (rows_mem ha b3 _ z hz).1
    omega
inductive Out
  | no
  | paper
  | over
inductive Runs (ok good : List Int → Prop) : List (List Int) → Out → Prop
  | nil : Runs ok good [] .no
  | go {x : List Int} {r : List (List Int)} {o : Out} : ok x → good x → Runs ok good r o → Runs ok good (x :: r) o
  | err {x : List Int} {r : List (List Int)} : ok x → ¬ good x → Runs ok good (x :: r) .paper
  | over {x : List Int} {r : List (List Int)} : ¬ ok x → Runs ok good (x :: r) .over
def okE (ρ : Rule) (q : Qn) (lim : Int) : List Int → Prop := fun c => OkGt (ρ, q, c, lim)
def goodE (ρ : Rule) (q : Qn) : List Int → Prop := fun c => AnsP ρ (begF ρ c) (wordB q c)
def begsB (ρ : Rule) (from_ : Int) (n : Nat) : List (List Int) := (rg from_ n).flatMap fun h => beginB ρ.starts.length h
structure PreEo (n : Nat) (ρ : Rule) (q : Qn) (most lim : Int) : Prop where
  m0 : -80000 ≤ most
  m : most ≤ 80000
  b : ∀ h : Int, 1 ≤ h → h ≤ most → PreB ρ.starts.length h
  c : ∀ h : Int, 1 ≤ h → h ≤ most → ∀ c ∈ beginB ρ.starts.length h, PreGt n (ρ, q, c, lim) ∧ begF ρ c ≠ []
def SpEo (n : Nat) (C : Addr) : Sp := fun vs H Q E => ∃ ρ q most lim o, A4 aR aQ aI aI H vs (ρ, q, most, lim) ∧ PreEo n ρ q most lim ∧ Runs (okE ρ q lim) (goodE ρ q) (begsB ρ 1 most.toNat) o ∧
  (o = .no → ∀ H', Same H H' → Q .non H') ∧ (o = .paper → ∀ v H', Same H H' → v ≠ .non → Q v H') ∧ (o = .over → ∀ H', Same H H' → E (.ref C) none H')
theorem ok_err_of (B : Bt mg) {C : Addr} {n kg : Nat} (hk1 : 1 ≤ kg) (c_beginnings : Cl P w K mg base CX0 1 "beginnings" ["sorts", "hands"] [] SpBeg) (c_err_at : Cl P w K mg base (L2.CX P w) kg "err_at" ["rule", "question", "counts", "limit"] [] (SpErr n C)) (d : Here K mg s_err_of "err_of" [.int 1000]) :
    Cl P w K mg base (L2.CX P w) (kg + 1) "err_of" ["rule", "question", "most", "limit"] [] (SpEo n C) ∧ Cl P w K mg base (L2.CX P w) (kg + 1) "err_of" ["rule", "question", "most", "limit"] [.int 1000] (SpEo n C) := by
  refine d.clXd sc_err_of 3 rfl (fun _ _ _ _ _ _ _ us its h1 h2 => match us, its, h1, h2 with | [_, _, _], [_], _, _ => ⟨_, rfl, rfl⟩) (fun _ _ _ _ _ _ _ us its h1 h2 => match us, its, h1, h2 with | [_, _, _, _], [_], _, _ => ⟨_, rfl, rfl⟩) (fun _ _ _ _ ⟨_, _, _, _, _, ⟨_, _, _, _, h, _⟩, _⟩ => by rw [h]; rfl) (fun f cdv A outer s H vs Q E hr h => ?_)
  obtain ⟨ρ, q, most, lim, o, ⟨v, u, v2, v3, rfl, hρ, hq, hm, hl⟩, hp, hrun, k1, k2, k3⟩ := h
  have hρ : aR H v ρ := hρ
  have hq : aQ H u q := hq
  cases hm
  cases hl
  have hu := hu_of hr
  refine ⟨_, (pss_cons (ps_for (passes_of rfl) rfl (pi_range2 rfl B.range (pa_cons pe_int (pa_cons (pe_op op_add (pv 2) pe_int) pa_nil))) (pg_name (i := 4) sc_err_of.nd rfl (by first | exact Or.inl rfl | exact Or.inr rfl))
    (pss_one (ps_for (passes_of rfl) rfl (pi_list (pe_cl c_beginnings (hr.mono (by first | decide | omega)) (by rfl) pass0 (pa_cons (pe_callB call_len_seq (by rfl) B.len PySem.boot_len (pa_cons (pe_ix ix_tup (pv 0) pe_int (fun _ _ => rfl)) pa_nil)) (pa_cons (pv 4) pa_nil)))) (pg_name (i := 5) sc_err_of.nd rfl (by first | exact Or.inl rfl | exact Or.inr rfl))
    (pss_cons (ps_set (i := 6) sc_err_of.nd rfl (by first | exact Or.inl rfl | exact Or.inr rfl) (pe_clS c_err_at (hr.mono (by first | decide | omega)) (by rfl) (fun σ => passAt (W := wE E) (takes_of rfl rfl rfl rfl) σ) (pa_cons (pv 0) (pa_cons (pv 1) (pa_cons (pv 5) (pa_cons (pv 3) pa_nil))))))
    (pss_one (ps_if (pt_cmpR op_notN (pv 6) pe_non (nomark _)) (pss_one (ps_ret (pv 6))) pss_nil))))))
    (pss_one (ps_ret pe_non))), ?_⟩
  have hm0 := hp.m0
  have hm1 := hp.m
  refine s_forR2 (lo := 1) (n := most + 1) ed_i (ed_add (ed_var (r := aI) rfl rfl) ed_i) (by omega) (by omega) (by omega) (by omega)
    (fun i σ' H' => ∃ s4 s5 s6, σ' = [some v, some u, some (.int most), some (.int lim), s4, s5, s6] ∧ Same H H' ∧ Runs (okE ρ q lim) (goodE ρ q) (begsB ρ (1 + (i : Int)) (most.toNat - i)) o) (fun H1 e1 => ⟨none, none, none, rfl, e1, by simpa using hrun⟩) ?_ ?_
  · rintro i σ' H1 hi ⟨s4, s5, s6, rfl, sm, hrn⟩
    have hb := hp.b (1 + (i : Int)) (by omega) (by omega)
    have hc := hp.c (1 + (i : Int)) (by omega) (by omega)
    have hsplit : begsB ρ (1 + (i : Int)) (most.toNat - i) = beginB ρ.starts.length (1 + (i : Int)) ++ begsB ρ (1 + ((i + 1 : Nat) : Int)) (most.toNat - (i + 1)) := by
      obtain ⟨m, hm⟩ : ∃ m, most.toNat - i = m + 1 := ⟨most.toNat - i - 1, by omega⟩
      have e : most.toNat - (i + 1) = m := by omega
      have e2 : 1 + ((i + 1 : Nat) : Int) = 1 + (i : Int) + 1 := by omega
      rw [hm, e, e2]
      unfold begsB
      rw [show rg (1 + (i : Int)) (m + 1) = (1 + (i : Int)) :: rg (1 + (i : Int) + 1) m from rfl, List.flatMap_cons]
    rw [hsplit] at hrn
    have hcall : Ed (tCall SpBeg [] E (tCons (tCB (rLenS K) (tCons (tOp (rIxT K) (tVar 0) (tC (.int 1))) tNil)) (tCons (tVar 4) tNil))) [some v, some u, some (.int most), some (.int lim), some (.int (1 + (i : Int))), s5, s6] H1 (aL (aT aI)) (beginB ρ.starts.length (1 + (i : Int))) := by
      have := ed_call2 (s := aI) (E := E) (pre := PreB) (f := fun sorts hands => beginB sorts.toNat hands) (t := aL (aT aI)) (ed_len (K := K) (ed_R1 (K := K) (ed_var (i := 0) (σ := [some v, some u, some (.int most), some (.int lim), some (.int (1 + (i : Int))), s5, s6]) rfl (Mo.mo sm hρ)))) (ed_var (r := aI) (i := 4) (v := .int (1 + (i : Int))) (x := 1 + (i : Int)) rfl rfl) hb
      exact this
    refine s_forX (S := fun _ => False) (r := aT aI) (xs := beginB ρ.starts.length (1 + (i : Int))) (fun H2 e2 Q' q' => hcall H2 e2 Q' fun lv H3 e3 ⟨a, vs, h1, h2, h3⟩ => q' lv H3 e3 ⟨a, vs, h1, id, h2, h3⟩)
      (fun j σ' H' => ∃ s5 s6, σ' = [some v, some u, some (.int most), some (.int lim), some (.int (1 + (i : Int))), s5, s6] ∧ Same H H' ∧ Runs (okE ρ q lim) (goodE ρ q) ((beginB ρ.starts.length (1 + (i : Int))).drop j ++ begsB ρ (1 + ((i + 1 : Nat) : Int)) (most.toNat - (i + 1))) o)
      (fun H2 e2 => ⟨s5, s6, rfl, sm.trans e2, by rw [List.drop_zero]; exact hrn⟩) ?_ ?_
    · rintro H2 j c cv σ' H3 e2 hj ⟨s5, s6, rfl, sm3, hr3⟩ hls hcv
      have hcm := List.mem_of_getElem? hj
      obtain ⟨pg, pn⟩ := hc c hcm
      have hdr : (beginB ρ.starts.length (1 + (i : Int))).drop j = c :: (beginB ρ.starts.length (1 + (i : Int))).drop (j + 1) := by
        obtain ⟨g1, g2⟩ := List.getElem?_eq_some_iff.mp hj
        rw [List.drop_eq_getElem_cons g1, g2]
      rw [hdr, List.cons_append] at hr3
      have args := fun (H4 : Hp) (e4 : Same H3 H4) => eA4 (r := aR) (s := aQ) (t := aT aI) (q := aI) (x := ρ) (y := q) (z := c) (z' := lim) (ed_var (σ := [some v, some u, some (.int most), some (.int lim), some (.int (1 + (i : Int))), some cv, s6]) (i := 0) rfl (Mo.mo (sm3.trans e4) hρ)) (ed_var (i := 1) rfl (Mo.mo (sm3.trans e4) hq)) (ed_var (i := 5) rfl (Mo.mo e4 hcv)) (ed_var (i := 3) rfl rfl)
      by_cases hok : OkGt (ρ, q, c, lim)
      · refine ed_callX (p := (ρ, q, c, lim)) (args H3 (Same.refl _)) ⟨pg, pn⟩ hok H3 (Same.refl _) _ fun pv H4 e4 ⟨op, hpv, hpo⟩ => ?_
        dsimp only
        refine s_if (b := op.isSome) (et_test (ed_notN (r := aEr) (o := op) (ed_var (i := 6) rfl hpv))) (fun hb5 H5 e5 => ?_) (fun hb5 H5 e5 => ?_)
        · refine s_ret (r := aV pv) (x := ()) (ed_ref rfl) fun rv H6 e6 hrv => ?_
          cases hrv
          have hop : o = .paper := by
            cases hr3 with
            | go _ hgood _ =>
              rcases hpo with ⟨h1, _⟩ | ⟨x, ns, rs, h1, hpa, hlost⟩
              · rw [h1] at hb5; cases hb5
              · obtain ⟨y, hy, hall⟩ := hgood x hpa.reach
                obtain ⟨z, hz, hne⟩ := hlost y hy
                exact absurd (hall z hz) hne
            | err _ _ => rfl
            | over hno => exact absurd hok hno
          refine k2 hop _ H6 (((sm3.trans e4).trans e5).trans e6) ?_
          cases op with
          | none => cases hb5
          | some x => exact hpv.2
        · refine ⟨⟨_, _, rfl, (sm3.trans e4).trans e5, ?_⟩, hls.trans (LSm.of (e4.trans e5))⟩
          cases hr3 with
          | go _ _ h => exact h
          | err _ hbad =>
            rcases hpo with ⟨_, h2⟩ | ⟨x, ns, rs, h1, _, _⟩
            · exact absurd h2 hbad
            · rw [h1] at hb5; cases hb5
          | over hno => exact absurd hok hno
      · have hop : o = .over := by
          cases hr3 with
          | go h _ _ => exact absurd h hok
          | err h _ => exact absurd h hok
          | over _ => rfl
        exact ex_callX (p := (ρ, q, c, lim)) (args H3 (Same.refl _)) ⟨pg, pn⟩ hok (fun H4 e4 => k3 hop H4 (sm3.trans e4)) H3 (Same.refl _) _
    · rintro H2 σ' H3 e2 hls ⟨s5, s6, rfl, sm3, hr3⟩
      rw [List.drop_length, List.nil_append] at hr3
      exact ⟨_, _, _, rfl, sm3, hr3⟩
  · rintro σ' H1 ⟨s4, s5, s6, rfl, sm, hrn⟩
    have : most.toNat - (most + 1 - 1).toNat = 0 := by omega
    rw [this] at hrn
    have hno : o = .no := by
      unfold begsB at hrn
      simp only [rg, List.flatMap_nil] at hrn
      cases hrn; rfl
    dsimp only
    exact s_ret (r := aN) (x := ()) (ed_c fun _ => rfl) fun rv H2 e2 hrv => by cases hrv; exact k1 hno H2 (sm.trans e2)
end
end Pg

set_option Elab.async false
set_option linter.all false
set_option maxRecDepth 100000
set_option maxHeartbeats 4000000
namespace Pg
open PySem PySem.Spec PyProof.Rows L2 Pf
section
variable {α : Type} {K : PySem.W.Frag} {σ : L2.St} {H : Hp} {te to : TE} {r : Rl α} {D : Ends}
theorem ed_neg {i : Int} (h : Ed te σ H aI i) : Ed (tUn (rU fun i => .int (-i)) te) σ H aI (-i) := fun H1 e Q q => h H1 e _ fun v H2 e2 hv => ⟨i, hv, q _ H2 e2 rfl⟩
theorem atI_last {α : Type} (xs : List α) (x : α) : atI (xs ++ [x]) (-1) = some x := by
  unfold atI ixN
  rw [if_neg (by decide), if_pos (by simp; omega)]
  have : ((-1 : Int) + ((xs ++ [x]).length : Nat)).toNat = xs.length := by simp; omega
  rw [this]
  simp
theorem el_revL [Ms r] {xs : List α} (h : Ed te σ H (aL r) xs) : EdL (tRevL K te) σ H r xs.reverse := fun H1 e Q q =>
  h H1 e _ fun v H2 e2 ⟨a, vs, h1, h2, h3⟩ => ⟨a, vs, h1, SqL.of h2, fun p hp => q p _ _ (e2.free hp) (e2.trans (Same.new hp)) upd_same (Paired.imp (Paired.rev h3) fun _ _ w => Mo.mo (Same.new hp) w)⟩
theorem ed_base {H0 : Hp} [Ms r] {x : α} (hs : Same H0 H) (h : Ed te σ H (aAt r H0) x) : Ed te σ H r x := fun H1 e Q q => h H1 e Q fun v H2 e2 hv => q v H2 e2 (Mo.mo (hs.trans (e.trans e2)) hv)
theorem tg_unl {i j : Nat} {a : Addr} {x y : V} {Q : L2.St → Hp → Prop} (h : H a = some (.lst [x, y])) (q : Q ((σ.set i (some x)).set j (some y)) H) : gUnl K 2 (gCons (gName i) (gCons (gName j) gNil)) (.ref a) σ H Q :=
  ⟨a, _, rfl, SqL.of h, rfl, x, _, rfl, y, _, rfl, rfl, q⟩
theorem s_pop {i : Nat} {l : Addr} {ws : List V} {y : V} (h : σ[i]? = some (some (.ref l))) (hl : H l = some (.lst ws)) (hy : ws[ws.length - 1]? = some y) (k : D.nx σ (upd H l (.lst ws.dropLast))) : tDrop (tBM0 K "list" rPop (tVar i)) D σ H :=
  ⟨.ref l, h, Or.inl ⟨rfl, ws, SqL.of hl⟩, l, ws, y, rfl, rfl, hl, hy, k⟩
/-- [x, 0], new -/
def aFr (H0 : Hp) (xv : V) : Rl Addr := fun H v a => v = .ref a ∧ H a = some (.lst [xv, .int 0]) ∧ H0 a = none
instance {H0 : Hp} {xv : V} : Ms (aFr H0 xv) := ⟨fun e ⟨h1, h2, h3⟩ => ⟨h1, e _ _ h2, h3⟩⟩
theorem ed_frame {i : Nat} {xv : V} (h : σ[i]? = some (some xv)) : Ed (tLst (tCons (tVar i) (tCons (tC (.int 0)) tNil))) σ H (aE (aFr H xv) fun _ => True) () := fun H1 e Q q =>
  ⟨xv, h, sz_of (by show 2 ≤ 100000; decide), fun a ha => q _ _ (Same.new ha) ⟨a, ⟨rfl, upd_same, e.free ha⟩, trivial⟩⟩
end
section
variable {P : Program} {w : World} {K : PySem.W.Frag} {mg : Str → Option Value} {base : Heap}
/-- promises of a list that is new -/
def SpN {α β : Type} (A : Hp → List V → α → Prop) (pre : α → Prop) (t : Rl β) (post : α → List β → Prop) : Sp := fun vs H Q _ => ∃ x, A H vs x ∧ pre x ∧ ∀ l ws H' ys, H l = none → Same H H' → H' l = some (.lst ws) → Paired (t H') ws ys → post x ys → Q (.ref l) H'
abbrev SpLast : Sp := SpN (A2 aG (aT aI)) (fun p => Gr p.1.1 p.1.2 ∧ p.2 ∈ p.1.2) (aT aI) (fun p ys => ys.Nodup ∧ ∀ x ∈ ys, x ∈ p.1.2)
abbrev Frame := Addr × List Int × Nat
structure DSt (H0 : Hp) (fo sd l : Addr) (st : List Frame) (seen fnd : List (List Int)) (H' : Hp) : Prop where
  sm : Same H0 H'
  F : ∃ fs, H' fo = some (.lst fs) ∧ Paired (aT aI H') fs fnd
  D : ∃ kvs, H' sd = some (.dT kvs) ∧ KvP aB H' kvs (seenB seen)
  W : H' l = some (.lst (st.map fun e => V.ref e.1))
  fr : ∀ e ∈ st, H0 e.1 = none ∧ e.1 ≠ fo ∧ e.1 ≠ l ∧ ∃ cv, H' e.1 = some (.lst [cv, .int (e.2.2 : Int)]) ∧ aT aI H' cv e.2.1
  nd : (st.map (·.1)).Nodup
theorem DSt.same {H0 : Hp} {fo sd l : Addr} {st : List Frame} {seen fnd : List (List Int)} {H1 H2 : Hp} (e : Same H1 H2) (g : DSt H0 fo sd l st seen fnd H1) : DSt H0 fo sd l st seen fnd H2 := by
  obtain ⟨s, ⟨fs, f1, f2⟩, ⟨k2, d1, d2⟩, h4, h5, h6⟩ := g
  refine ⟨s.trans e, ⟨fs, e _ _ f1, paired_same e f2⟩, ⟨k2, e _ _ d1, kvP_same e d2⟩, e _ _ h4, fun x hx => ?_, h6⟩
  obtain ⟨g1, g2, g3, cv, g4, g5⟩ := h5 x hx
  exact ⟨g1, g2, g3, cv, e _ _ g4, Mo.mo e g5⟩
def costF (ρ : Rule) (st : List Frame) : Nat := (st.map fun e => (stepsB ρ e.2.1).length - e.2.2 + 1).sum
theorem costF_app (ρ : Rule) (st : List Frame) (e : Frame) : costF ρ (st ++ [e]) = costF ρ st + ((stepsB ρ e.2.1).length - e.2.2 + 1) := by
  unfold costF; rw [List.map_append, List.sum_append]; simp
theorem refs_paired {H : Hp} : ∀ as : List Addr, Paired (aA H) (as.map V.ref) as
  | [] => .nil
  | a :: as => .cons rfl (refs_paired as)
theorem ok_last_left (B : Bt mg) (d : Here K mg s_last_left "last_left" []) : Cl P w K mg base CX0 1 "last_left" ["graph", "crowd"] [] SpLast := by
  refine d.cl sc_last_left (fun _ _ _ _ _ _ us hl => match us, hl with | [_, _], _ => rfl) (fun _ _ _ _ ⟨_, ⟨_, _, h, _⟩, _⟩ => by rw [h]; rfl) (fun f cdv A outer s H vs Q E hr h => ?_)
  obtain ⟨⟨⟨ρ, ks⟩, c⟩, ⟨v, u, rfl, hg, hc⟩, ⟨hG, hck⟩, k⟩ := h
  have hu := hu_of hr
  have hks9 : ks.length ≤ 90000 := hG.few
  refine ⟨_, (pss_cons (ps_set (i := 2) sc_last_left.nd rfl (by first | exact Or.inl rfl | exact Or.inr rfl) (pe_lst pa_nil))
    (pss_cons (ps_set (i := 3) sc_last_left.nd rfl (by first | exact Or.inl rfl | exact Or.inr rfl) (pe_disp1 hu (pv 1) pe_bl))
    (pss_cons (ps_set (i := 4) sc_last_left.nd rfl (by first | exact Or.inl rfl | exact Or.inr rfl) (pe_lst (pa_cons (pe_lst (pa_cons (pv 1) (pa_cons pe_int pa_nil))) pa_nil)))
    (pss_cons (ps_while PassesOwn.never (pt_cmpR op_gt (pe_callB call_len_seq (by rfl) B.len PySem.boot_len (pa_cons (pv 4) pa_nil)) pe_int (nomark _)) (pss_cons (ps_asg (pe_ix ix_list (pv 4) (pe_un un_neg pe_int) (fun _ _ => rfl)) (pg_unl rfl (pgs_cons (pg_name (i := 5) sc_last_left.nd rfl (by first | exact Or.inl rfl | exact Or.inr rfl)) (pgs_cons (pg_name (i := 6) sc_last_left.nd rfl (by first | exact Or.inl rfl | exact Or.inr rfl)) pgs_nil))))
    (pss_one (ps_if (pt_cmpR op_lt (pv 6) (pe_callB call_len_seq (by rfl) B.len PySem.boot_len (pa_cons (pe_dget hu (pv 0) (pv 5) (fun _ _ => rfl)) pa_nil)) (nomark _)) (pss_cons (ps_asg (pe_op op_add (pv 6) pe_int) (pg_sub (pe_ix ix_list (pv 4) (pe_un un_neg pe_int) (fun _ _ => rfl)) pe_int set_list))
    (pss_cons (ps_set (i := 7) sc_last_left.nd rfl (by first | exact Or.inl rfl | exact Or.inr rfl) (pe_ix ix_tup (pe_ix ix_list (pe_dget hu (pv 0) (pv 5) (fun _ _ => rfl)) (pv 6) (fun _ _ => rfl)) pe_int (fun _ _ => rfl)))
    (pss_one (ps_if (pt_cmp (pc_dnotin hu (pv 7) (pv 3)) (by rfl)) (pss_cons (ps_dput hu (pv 3) (pv 7) pe_bl rfl)
    (pss_one (ps_expr (pe_bm PySem.F.plainAttrs_list PySem.F.slot_list_append PySem.F.type_list_append mt_append (pv 4) (pa_cons (pe_lst (pa_cons (pv 7) (pa_cons pe_int pa_nil))) pa_nil))))) pss_nil)))) (pss_cons (ps_expr (pe_bm PySem.F.plainAttrs_list PySem.F.slot_list_append PySem.F.type_list_append mt_append (pv 2) (pa_cons (pv 5) pa_nil)))
    (pss_one (ps_expr (pe_bm0 PySem.F.plainAttrs_list PySem.F.slot_list_pop PySem.F.type_list_pop mt_pop (pv 4)))))))))
    (pss_one (ps_ret (pe_revL (pv 2)))))))), ?_⟩
  refine s_asgL (r := aT aI) el_nil fun fo ws H1 hf0 e1 hf hfp => ?_
  cases hfp
  refine s_asgD (s := aB) (d_disp1 (ed_var rfl (Mo.mo e1 hc)) ed_b) fun sd kvs H2 hd0 e2 hd hdp => ?_
  have hfd : fo ≠ sd := fun z => by subst z; rw [hf] at hd0; cases hd0
  have hd0' := e1.free hd0
  refine (show tAsg (tLst (tCons (tLst (tCons (tVar 1) (tCons (tC (.int 0)) tNil))) tNil)) (gName 4) _ _ _ from ⟨u, rfl, sz_of (by show 2 ≤ 100000; decide), fun a ha => ⟨sz_of (by show 1 ≤ 100000; decide), fun l hl => ?_⟩⟩)
  have hla : a ≠ l := fun z => by rw [← z, upd_same] at hl; cases hl
  rw [upd_ne (Ne.symm hla)] at hl
  have hfo2 := e2 _ _ hf
  have hla2 : H2 l = none := hl
  have hlf : l ≠ fo := fun z => by rw [z, hfo2] at hla2; cases hla2
  have hls : l ≠ sd := fun z => by rw [z, hd] at hla2; cases hla2
  have haf : a ≠ fo := fun z => by rw [z, hfo2] at ha; cases ha
  have has : a ≠ sd := fun z => by rw [z, hd] at ha; cases ha
  have haH : H a = none := (e1.trans e2).free ha
  have hlH : H l = none := (e1.trans e2).free hla2
  have e3 : Same H2 (upd (upd H2 a (.lst [u, .int 0])) l (.lst [.ref a])) := (Same.new ha).trans (Same.new (by rw [upd_ne (Ne.symm hla)]; exact hla2))
  have hM : ∀ x, (stepsB ρ x).length ≤ ρ.meets.length := stepsB_len ρ
  show tWhile _ _ _ _ _
  refine s_while (fun m σ' H' => ∃ st seen fnd s5 s6 s7, σ' = [some v, some u, some (.ref fo), some (.ref sd), some (.ref l), s5, s6, s7] ∧ (fnd ++ st.map (·.2.1)).Perm seen ∧ seen.Nodup ∧ (∀ x ∈ seen, x ∈ ks) ∧ (∀ e ∈ st, e.2.2 ≤ (stepsB ρ e.2.1).length) ∧ m = (ks.length - seen.length) * (ρ.meets.length + 2) + costF ρ st ∧ DSt H fo sd l st seen fnd H') _
    ⟨[(a, c, 0)], [c], [], none, none, none, rfl, by simp, by simp, fun x hx => by rw [List.mem_singleton.mp hx]; exact hck, fun e he => by rw [List.mem_singleton.mp he]; exact Nat.zero_le _, rfl, (e1.trans e2).trans e3, ⟨[], e3 _ _ hfo2, .nil⟩, ⟨kvs, e3 _ _ hd, kvP_same e3 hdp⟩, upd_same, fun e he => ?_, by simp⟩ ?_
  · rw [List.mem_singleton.mp he]
    exact ⟨haH, haf, hla, u, by rw [upd_ne hla]; exact upd_same, Mo.mo ((e1.trans e2).trans e3) hc⟩
  rintro m σ' H' ⟨st, seen, fnd, s5, s6, s7, rfl, hpm, hsn, hsk, hat, rfl, G⟩
  have hseen9 : seen.length ≤ ks.length := nodup_le hsn hsk
  have hpl := hpm.length_eq
  rw [List.length_append, List.length_map] at hpl
  have wl : ∀ H'', Same H' H'' → aL aA H'' (.ref l) (st.map (·.1)) := fun H'' e => ⟨l, _, rfl, e _ _ G.W, by have := refs_paired (H := H'') (st.map (·.1)); rw [List.map_map] at this; exact this⟩
  refine ⟨decide ((0 : Int) < ((st.map (·.1)).length : Int)), et_test (ed_gt (ed_lenL (r := aA) (ed_var rfl (wl _ (Same.refl _)))) ed_i), fun hb H4 e4 => ?_, fun hb H4 e4 => ?_⟩
  · have hne : st ≠ [] := by
      intro z; rw [z] at hb; exact absurd (of_decide_eq_true hb) (by decide)
    obtain ⟨st0, ⟨fa, x, n⟩, rfl⟩ : ∃ s0 e, st = s0 ++ [e] := ⟨st.dropLast, st.getLast hne, (List.dropLast_concat_getLast hne).symm⟩
    have G1 := G.same e4
    have hlast : atI ((st0 ++ [(fa, x, n)]).map (·.1)) (-1) = some fa := by rw [List.map_append]; exact atI_last _ _
    have hmem : (fa, x, n) ∈ st0 ++ [(fa, x, n)] := by simp
    obtain ⟨g1, g2, g3, cv, g4, g5⟩ := G1.fr _ hmem
    have hxs : x ∈ seen := hpm.mem_iff.mp (List.mem_append_right _ (List.mem_map.mpr ⟨_, hmem, rfl⟩))
    have hxk : x ∈ ks := hsk x hxs
    have hlk : look (graphB ρ ks) x = some (stepsB ρ x) := by rw [look_graph, if_pos hxk]
    have htop : ∀ {σ : L2.St} {H'' : Hp}, σ[4]? = some (some (.ref l)) → Same H' H'' → Ed (tOp (rIxL K) (tVar 4) (tUn (rU fun i => .int (-i)) (tC (.int 1)))) σ H'' aA fa := fun h e => ed_ixL (ed_var h (wl _ e)) (ed_neg ed_i) hlast
    have hn := hat _ hmem
    refine htop rfl e4 H4 (Same.refl _) _ fun tv H5 e5 htv => ?_
    cases htv
    refine tg_unl (e5 _ _ g4) ?_
    have G2 := G1.same e5
    have g45 := e5 _ _ g4
    have g55 := Mo.mo e5 g5
    have e45 := e4.trans e5
    have gd : ∀ {σ : L2.St} {H'' : Hp}, σ[0]? = some (some v) → σ[5]? = some (some cv) → Same H5 H'' → Ed (tDGet (tVar 0) (tVar 5)) σ H'' aSt (stepsB ρ x) := fun h0 h5 e => ed_base (H0 := H) (G2.sm.trans e) (ed_ixD (s := aAt aSt H) (g := graphB ρ ks) (ed_var h0 (aU.d (aU.at (G2.sm.trans e) hg))) (ed_var h5 (Mo.mo e g55)) hlk)
    dsimp only
    refine s_if (b := decide ((n : Int) < ((stepsB ρ x).length : Int))) (et_test (ed_lt (ed_var (r := aI) rfl rfl) (ed_lenL (gd rfl rfl (Same.refl _))))) (fun hb H6 e6 => ?_) (fun hb H6 e6 => ?_)
    · have hnl : n < (stepsB ρ x).length := by have := of_decide_eq_true hb; omega
      have hbx : (stepsB ρ x)[n]? = some (stepsB ρ x)[n] := List.getElem?_eq_getElem hnl
      generalize (stepsB ρ x)[n] = b at hbx
      have hbm : b ∈ stepsB ρ x := List.mem_of_getElem? hbx
      have hbk : b.2 ∈ ks := hG.cl _ hxk _ hbm
      have G3 := G2.same e6
      have g46 := e6 _ _ g45
      refine s_setL (n := 1) (r := aI) (x := (n : Int) + 1) g46 (ed_add (ed_var (r := aI) rfl rfl) ed_i) (ed_aV (htop rfl (e45.trans e6))) ed_i rfl fun nv H7 e7 hnv => ?_
      cases hnv
      have G4 := G3.same e7
      have g47 := e7 _ _ g46
      have hfaH : H fa = none := g1
      have upN : ∀ {b : Addr}, b ≠ fa → ∀ {o : HO}, upd H7 fa o b = H7 b := fun h => upd_ne h
      have G5 : DSt H fo sd l (st0 ++ [(fa, x, n + 1)]) seen fnd (upd H7 fa (.lst ([cv, V.int (n : Int)].set 1 (V.int ((n : Int) + 1))))) := by
        obtain ⟨sm, ⟨fs, f1, f2⟩, ⟨k2, d1, d2⟩, hW, hfr, hnd⟩ := G4
        refine ⟨Same.mut sm hfaH, ⟨fs, by rw [upd_ne (Ne.symm g2)]; exact f1, Paired.imp f2 fun _ _ q => Im.upL g47 q⟩, ⟨k2, ?_, kvP_ts (TSm.upL g47) d2⟩, ?_, fun e he => ?_, ?_⟩
        · have : sd ≠ fa := fun z => by rw [z, g47] at d1; cases d1
          rw [upd_ne this]; exact d1
        · rw [upd_ne (Ne.symm g3), hW, List.map_append, List.map_append]; rfl
        · rcases List.mem_append.mp he with he | he
          · obtain ⟨a1, a2, a3, cv', a4, a5⟩ := hfr e (List.mem_append_left _ he)
            have hne' : e.1 ≠ fa := by
              intro z
              rw [List.map_append] at hnd
              exact (List.nodup_append.mp hnd).2.2 e.1 (List.mem_map_of_mem he) fa (by simp) z
            exact ⟨a1, a2, a3, cv', by rw [upd_ne hne']; exact a4, Im.upL g47 a5⟩
          · rw [List.mem_singleton.mp he]
            exact ⟨g1, g2, g3, cv, upd_same, Im.upL g47 (Mo.mo (e6.trans e7) g55)⟩
        · rw [List.map_append] at hnd ⊢; exact hnd
      have hcost5 : costF ρ (st0 ++ [(fa, x, n + 1)]) + 1 = costF ρ (st0 ++ [(fa, x, n)]) := by
        rw [costF_app, costF_app]
        show costF ρ st0 + ((stepsB ρ x).length - (n + 1) + 1) + 1 = costF ρ st0 + ((stepsB ρ x).length - n + 1)
        omega
      have hpm5 : (fnd ++ (st0 ++ [(fa, x, n + 1)]).map (·.2.1)).Perm seen := by
        rw [List.map_append] at hpm ⊢; exact hpm
      have hat5 : ∀ e ∈ st0 ++ [(fa, x, n + 1)], e.2.2 ≤ (stepsB ρ e.2.1).length := fun e he => by
        rcases List.mem_append.mp he with he | he
        · exact hat e (List.mem_append_left _ he)
        · rw [List.mem_singleton.mp he]; exact hnl
      clear hat hpm
      generalize hH8 : upd H7 fa (.lst ([cv, V.int (n : Int)].set 1 (V.int ((n : Int) + 1)))) = H8 at G5
      have g58 : aT aI H8 cv x := by
        obtain ⟨_, _, _, cv', a4, a5⟩ := G5.fr (fa, x, n + 1) (by simp)
        rw [← hH8, upd_same] at a4
        cases a4; exact a5
      dsimp only
      refine s_asg (r := aT aI) (x := b.2) (ed_ixP1 (r := aI) (ed_ixL (x := b) (ed_base (H0 := H) G5.sm (ed_ixD (s := aAt aSt H) (g := graphB ρ ks) (ed_var rfl (aU.d (aU.at G5.sm hg))) (ed_var rfl g58) hlk)) (ed_var (r := aI) rfl rfl) (atI_nat hbx))) fun bv H9 e9 hbv => ?_
      have G6 := G5.same e9
      obtain ⟨sm6, ⟨fs, f1, f2⟩, ⟨k2, d1, d2⟩, hW, hfr, hnd⟩ := id G6
      dsimp only
      refine s_if (b := !(look (seenB seen) b.2).isSome) (et_B (ed_notInD (ed_var rfl hbv) (ed_ownD rfl d1 d2))) (fun hb H10 e10 => ?_) (fun hb H10 e10 => ?_)
      · have hnm : b.2 ∉ seen := by
          rw [look_seen] at hb
          simpa using hb
        have hln : look (seenB seen) b.2 = none := by
          have := look_seen seen b.2
          rw [decide_eq_false hnm] at this
          simpa using this
        have hsl : seen.length < ks.length := by
          have := nodup_le (L := b.2 :: seen) (S := ks) (List.nodup_cons.mpr ⟨hnm, hsn⟩) fun y hy => (List.mem_cons.mp hy).elim (fun e => by rw [e]; exact hbk) (hsk y)
          rw [List.length_cons] at this; omega
        have hdl := d2.length
        refine s_putD (e10 _ _ d1) (ed_b (b := true)) (ed_ref rfl) (ed_var rfl (Mo.mo e10 hbv)) (by rw [hdl]; unfold seenB; rw [List.length_map]; omega) fun bw H11 e11 hbw => ?_
        cases hbw
        have d11 := e11 _ _ (e10 _ _ d1)
        have eA := e10.trans e11
        rw [putK_snoc (.bl true) (kvP_same eA d2) hln]
        have l11 : (upd H11 sd (.dT (k2 ++ [(kk b.2, .bl true)]))) l = some (.lst ((st0 ++ [(fa, x, n + 1)]).map fun e => V.ref e.1)) := by rw [upd_ne hls]; exact eA _ _ hW
        refine s_app (l := l) l11 (ed_ref rfl) (ed_frame (i := 7) (xv := bv) rfl) (by rw [List.length_map]; have := hpm5.length_eq; rw [List.length_append, List.length_map] at this; omega) fun fv H12 e12 hfv => ?_
        obtain ⟨fb, ⟨rfl, hfb, hfb0⟩, _⟩ := hfv
        have d12 := e12 _ _ (upd_same (H := H11) (a := sd))
        have l12 := e12 _ _ l11
        have f12 : H12 fo = some (.lst fs) := e12 _ _ (by rw [upd_ne hfd]; exact eA _ _ f1)
        have ts : TSm H11 (upd H12 l (.lst (((st0 ++ [(fa, x, n + 1)]).map fun e => V.ref e.1) ++ [.ref fb]))) := (TSm.upD d11).trans ((TSm.of e12).trans (TSm.upL l12))
        have hfb1 : H11 fb = none := by
          have : fb ≠ sd := fun z => by rw [z, upd_same] at hfb0; cases hfb0
          rw [upd_ne this] at hfb0; exact hfb0
        have hfbH : H fb = none := ((sm6.trans eA)).free hfb1
        have hfbl : fb ≠ l := fun z => by rw [z, eA _ _ hW] at hfb1; cases hfb1
        have hfbf : fb ≠ fo := fun z => by rw [z, eA _ _ f1] at hfb1; cases hfb1
        refine ⟨(ks.length - (seen ++ [b.2]).length) * (ρ.meets.length + 2) + costF ρ ((st0 ++ [(fa, x, n + 1)]) ++ [(fb, b.2, 0)]), ?_, (st0 ++ [(fa, x, n + 1)]) ++ [(fb, b.2, 0)], seen ++ [b.2], fnd, _, _, _, rfl, ?_, ?_, ?_, ?_, rfl, ?_⟩
        · rw [costF_app (e := (fb, b.2, 0))]
          have h1 : (stepsB ρ b.2).length ≤ ρ.meets.length := hM _
          have h2 : ks.length - seen.length = (ks.length - (seen ++ [b.2]).length) + 1 := by rw [List.length_append]; simp; omega
          rw [h2, Nat.add_mul]
          show _ + (_ + ((stepsB ρ b.2).length - 0 + 1)) < _
          omega
        · rw [List.map_append, ← List.append_assoc]
          exact hpm5.append_right _
        · exact List.nodup_append.mpr ⟨hsn, by simp, fun y hy z hz => by rw [List.mem_singleton.mp hz]; exact fun e => hnm (e ▸ hy)⟩
        · intro y hy
          exact (List.mem_append.mp hy).elim (hsk y) fun h => by rw [List.mem_singleton.mp h]; exact hbk
        · intro e he
          rcases List.mem_append.mp he with he | he
          · exact hat5 e he
          · rw [List.mem_singleton.mp he]; exact Nat.zero_le _
        · refine ⟨Same.mut ((Same.mut (sm6.trans eA) hd0').trans e12) hlH, ⟨fs, by rw [upd_ne (Ne.symm hlf)]; exact f12, Paired.imp f2 fun _ _ q => Im.ts ((TSm.of eA).trans ts) q⟩, ⟨_, by rw [upd_ne (Ne.symm hls)]; exact d12, ?_⟩, ?_, fun e he => ?_, ?_⟩
          · have es : seenB (seen ++ [b.2]) = seenB seen ++ [(b.2, true)] := by unfold seenB; rw [List.map_append]; rfl
            rw [es]
            exact KvP.snoc (kvP_ts ts (kvP_same eA d2)) rfl
          · rw [upd_same, List.map_append (l₂ := [(fb, b.2, 0)])]; rfl
          · rcases List.mem_append.mp he with he | he
            · obtain ⟨a1, a2, a3, cv', a4, a5⟩ := hfr e he
              refine ⟨a1, a2, a3, cv', ?_, Im.ts ((TSm.of eA).trans ts) a5⟩
              rw [upd_ne a3]
              refine e12 _ _ ?_
              have : e.1 ≠ sd := fun z => by rw [z, d1] at a4; cases a4
              rw [upd_ne this]; exact eA _ _ a4
            · rw [List.mem_singleton.mp he]
              refine ⟨hfbH, hfbf, hfbl, bv, by rw [upd_ne hfbl]; exact hfb, Im.ts ((TSm.of eA).trans ts) hbv⟩
          · rw [List.map_append (l₂ := [(fb, b.2, 0)])]
            refine List.nodup_append.mpr ⟨hnd, by simp, fun y hy z hz => ?_⟩
            have hz' : z = fb := by simpa using hz
            subst hz'
            intro e
            subst e
            obtain ⟨e', he', hee⟩ := List.mem_map.mp hy
            obtain ⟨_, _, _, cv', a4, _⟩ := hfr e' he'
            rw [hee] at a4
            rw [eA _ _ a4] at hfb1; cases hfb1
      · refine ⟨(ks.length - seen.length) * (ρ.meets.length + 2) + costF ρ (st0 ++ [(fa, x, n + 1)]), by omega, _, seen, fnd, _, _, _, rfl, hpm5, hsn, hsk, hat5, rfl, G6.same e10⟩
    · have G3 := G2.same e6
      obtain ⟨sm3, ⟨fs, f1, f2⟩, ⟨k2, d1, d2⟩, hW, hfr, hnd⟩ := id G3
      have hfl := f2.length
      rw [List.length_append] at hpl
      refine s_app (r := aT aI) (x := x) (l := fo) f1 (ed_ref rfl) (ed_var rfl (Mo.mo e6 g55)) (by omega) fun xv H7 e7 hxv => ?_
      have f17 := e7 _ _ f1
      have l17 : (upd H7 fo (.lst (fs ++ [xv]))) l = some (.lst ((st0 ++ [(fa, x, n)]).map fun e => V.ref e.1)) := by rw [upd_ne hlf]; exact e7 _ _ hW
      refine s_pop (y := .ref fa) rfl l17 (by rw [List.length_map, List.map_append]; simp) ?_
      have ts : TSm H7 (upd (upd H7 fo (.lst (fs ++ [xv]))) l (.lst ((st0 ++ [(fa, x, n)]).map fun e => V.ref e.1).dropLast)) := (TSm.upL f17).trans (TSm.upL l17)
      refine ⟨(ks.length - seen.length) * (ρ.meets.length + 2) + costF ρ st0, by rw [costF_app]; omega, st0, seen, fnd ++ [x], _, _, _, rfl, ?_, hsn, hsk, fun e he => hat e (List.mem_append_left _ he), rfl, ?_⟩
      · refine List.Perm.trans ?_ hpm
        rw [List.map_append, List.append_assoc]
        exact List.Perm.append_left _ List.perm_append_comm
      · have hdl : ((st0 ++ [(fa, x, n)]).map fun e => V.ref e.1).dropLast = st0.map fun e => V.ref e.1 := by rw [List.map_append]; simp
        refine ⟨Same.mut (Same.mut (sm3.trans e7) hf0) hlH, ⟨_, by rw [upd_ne (Ne.symm hlf)]; exact upd_same, ?_⟩, ⟨k2, by rw [upd_ne (Ne.symm hls), upd_ne (Ne.symm hfd)]; exact e7 _ _ d1, kvP_ts ts (kvP_same e7 d2)⟩, by rw [upd_same, hdl], fun e he => ?_, ?_⟩
        · exact Paired.snoc (Paired.imp f2 fun _ _ q => Im.ts ((TSm.of e7).trans ts) q) (Im.ts ts hxv)
        · obtain ⟨a1, a2, a3, cv', a4, a5⟩ := hfr e (List.mem_append_left _ he)
          exact ⟨a1, a2, a3, cv', by rw [upd_ne a3, upd_ne a2]; exact e7 _ _ a4, Im.ts ((TSm.of e7).trans ts) a5⟩
        · rw [List.map_append] at hnd
          exact (List.nodup_append.mp hnd).1
  · have hst : st = [] := by
      cases st with
      | nil => rfl
      | cons e r => exact absurd (of_decide_eq_false hb) (by simp)
    subst hst
    rw [List.map_nil, List.append_nil] at hpm
    have G1 := G.same e4
    obtain ⟨sm1, ⟨fs, f1, f2⟩, _, _, _, _⟩ := id G1
    dsimp only
    refine s_retL (el_revL (ed_own rfl f1 f2)) fun rl rws H5 hr0 e5 hrl hrp => k rl rws H5 _ (sm1.free hr0) (sm1.trans e5) hrl hrp ⟨(List.reverse_perm _).nodup_iff.mpr (hpm.nodup_iff.mpr hsn), fun x hx => hsk x (hpm.mem_iff.mp (List.mem_reverse.mp hx))⟩
end
end Pg

set_option Elab.async false
set_option linter.all false
set_option maxRecDepth 100000
set_option maxHeartbeats 4000000
namespace Pg
open PySem PySem.Spec PyProof.Rows L2 Pf
/-- all stands but what X tells -/
def SmX (X : Addr → Prop) (H H' : Hp) : Prop := ∀ a o, ¬ X a → H a = some o → H' a = some o
section
variable {α : Type} {X : Addr → Prop} {H H1 H2 : Hp} {r : Rl α}
theorem SmX.refl : SmX X H H := fun _ _ _ h => h
theorem SmX.of (e : Same H H1) : SmX X H H1 := fun a o _ h => e a o h
theorem SmX.trans (a : SmX X H H1) (b : SmX X H1 H2) : SmX X H H2 := fun c o h k => b c o h (a c o h k)
theorem SmX.up {p : Addr} {o : HO} (h : X p) : SmX X H (upd H p o) := fun c q n k => by rw [upd_ne (fun z => n (by rw [z]; exact h))]; exact k
theorem SmX.mut {p : Addr} {o : HO} (e : SmX X H H1) (h : H p = none) : SmX X H (upd H1 p o) := fun c q n k => by
  rw [upd_ne (ne_of_none k h)]; exact e c q n k
theorem SmX.same (e : SmX X H H1) {H0 : Hp} (s : Same H0 H) (h : ∀ a, X a → H0 a = none) : Same H0 H1 := fun a o k => e a o (fun z => by rw [h a z] at k; cases k) (s a o k)
theorem SmX.ts (e : SmX X H H1) (h : ∀ a xs, X a → H a ≠ some (.tup xs)) : TSm H H1 := fun a xs k => e a _ (fun z => h a xs z k) k
theorem SmX.lsm (e : SmX X H H1) (h : ∀ a xs, X a → H a ≠ some (.tup xs)) : LSm X H H1 := ⟨e.ts h, fun a xs n k => e a _ n k⟩
end
section
variable {α β : Type} {K : PySem.W.Frag} {σ : L2.St} {H : Hp} {te te2 : TE} {tt : TT} {r : Rl α} {D : Ends} {g : TG} {tw : TS} {vs : List Nat}
/-- for over a new list, while X changes alone -/
theorem s_forN [Ms r] [Im r] {post : List α → Prop} (X : Addr → Prop) (h : ∀ Q : VK, (∀ l ws H1 xs, H l = none → Same H H1 → H1 l = some (.lst ws) → Paired (r H1) ws xs → post xs → Q (.ref l) H1) → te σ H Q) (hX : ∀ a, X a → H a ≠ none) (hT : ∀ a xs, X a → H a ≠ some (.tup xs))
    (Pv : List α → Nat → L2.St → Hp → Prop) (h0 : ∀ xs H1, Same H H1 → post xs → Pv xs 0 σ H1)
    (hs : ∀ xs H1 i x v σ' H', Same H H1 → post xs → xs[i]? = some x → Pv xs i σ' H' → SmX X H1 H' → r H' v x → g v σ' H' fun σ2 H2 => tw { D with nx := fun σ3 H3 => Pv xs (i + 1) σ3 H3 ∧ SmX X H1 H3, ct := fun σ3 H3 => Pv xs (i + 1) σ3 H3 ∧ SmX X H1 H3, bk := D.nx } σ2 H2) (hd : ∀ xs σ' H', post xs → Pv xs xs.length σ' H' → D.nx σ' H') : tFor (iList K te) g tw D σ H :=
  h _ fun l ws H1 xs hl e hl1 hp hpo => ⟨l, rfl, ⟨ws, SqL.of hl1⟩, by
    have hXl : ¬ X l := fun z => hX l z hl
    have hT1 : ∀ a ys, X a → H1 a ≠ some (.tup ys) := fun a ys z k => by
      cases q : H a with
      | none => exact hX a z q
      | some o =>
        have := e _ _ q
        rw [this] at k; cases k
        exact hT a ys z q
    refine for_list (xs := ws) (fun i σ' H' => Pv xs i σ' H' ∧ SmX X H1 H') ⟨h0 xs H1 e hpo, SmX.refl⟩ (fun i σ' H' _ p => SqL.of (p.2 _ _ hXl hl1)) (fun i w σ' H' hi p => ?_) fun σ' H' p => hd xs σ' H' hpo (by rw [← hp.length]; exact p.1)
    obtain ⟨x, hx, hr⟩ := Paired.get hp hi
    exact hs xs H1 i x w σ' H' e hpo hx p.1 p.2 (Im.ts (p.2.ts hT1) hr)⟩
theorem ed_callN {γ ε : Type} {A : Hp → List V → ε → Prop} {pre : ε → Prop} {t : Rl γ} {post : ε → List γ → Prop} {dvs : List V} {E : XK} {tr : TA} {p : ε} (h : EdA tr σ H (fun H' vs => A H' (vs ++ dvs) p)) (hp : pre p) (Q : VK) (q : ∀ l ws H1 xs, H l = none → Same H H1 → H1 l = some (.lst ws) → Paired (t H1) ws xs → post p xs → Q (.ref l) H1) : tCall (SpN A pre t post) dvs E tr σ H Q :=
  h H (Same.refl _) _ fun vs H2 e2 hv => ⟨p, hv, hp, fun l ws H' ys hl e hl1 hp' hpo => q l ws H' ys (e2.free hl) (e2.trans e) hl1 hp' hpo⟩
end
section
variable {P : Program} {w : World} {K : PySem.W.Frag} {mg : Str → Option Value} {base : Heap}
def flatL (rs : List (List (List Int))) : List (List Int) := rs.flatMap id
theorem flat_len {rs : List (List (List Int))} (h : ∀ r ∈ rs, r ≠ []) : rs.length ≤ (flatL rs).length := by
  induction rs with
  | nil => exact Nat.zero_le _
  | cons r rs ih =>
    have h1 : 0 < r.length := List.length_pos_iff.mpr (h r (List.mem_cons_self ..))
    have h2 := ih fun x hx => h x (List.mem_cons_of_mem _ hx)
    have : flatL (r :: rs) = r ++ flatL rs := rfl
    rw [this, List.length_append, List.length_cons]; omega
abbrev SpRounds : Sp := SpP (A2 aG (aT aI)) (fun p => Gr p.1.1 p.1.2 ∧ p.2 ∈ p.1.2 ∧ p.1.2.length * p.1.1.meets.length ≤ 90000 ∧ ∀ x ∈ p.1.2, x ≠ []) (aL (aL (aT aI))) (fun p rs => (flatL rs).Nodup ∧ (∀ x ∈ flatL rs, x ∈ p.1.2) ∧ ∀ r ∈ rs, r ≠ [])
theorem nodup_add {L : List (List Int)} {x : List Int} (h : L.Nodup) (hx : x ∉ L) : (L ++ [x]).Nodup :=
  List.nodup_append.mpr ⟨h, by simp, fun y hy z hz => by rw [List.mem_singleton.mp hz]; exact fun e => hx (e ▸ hy)⟩
theorem seenB_add (L : List (List Int)) (x : List Int) : seenB (L ++ [x]) = seenB L ++ [(x, true)] := by unfold seenB; rw [List.map_append]; rfl
theorem look_seen_no {L : List (List Int)} {x : List Int} (h : x ∉ L) : look (seenB L) x = none := by
  have := look_seen L x
  rw [decide_eq_false h] at this
  simpa using this
/-- the inner row of rounds_of: line and seen -/
structure USt (X : Addr → Prop) (HB : Hp) (sd ln : Addr) (S0 L ks : List (List Int)) (H' : Hp) : Prop where
  sm : SmX X HB H'
  W : ∃ ws, H' ln = some (.lst ws) ∧ Paired (aT aI H') ws L
  D : ∃ kvs, H' sd = some (.dT kvs) ∧ KvP aB H' kvs (seenB (S0 ++ L))
  nd : (S0 ++ L).Nodup
  sub : ∀ x ∈ S0 ++ L, x ∈ ks
theorem USt.same {X : Addr → Prop} {HB : Hp} {sd ln : Addr} {S0 L ks : List (List Int)} {H1 H2 : Hp} (e : Same H1 H2) (g : USt X HB sd ln S0 L ks H1) : USt X HB sd ln S0 L ks H2 := by
  obtain ⟨s, ⟨ws, l1, l2⟩, ⟨k2, d1, d2⟩, h4, h5⟩ := g
  exact ⟨s.trans (SmX.of e), ⟨ws, e _ _ l1, paired_same e l2⟩, ⟨k2, e _ _ d1, kvP_same e d2⟩, h4, h5⟩
/-- if x not in seen: seen[x] = True; line.append(x) -/
theorem s_see {K : PySem.W.Frag} {X : Addr → Prop} {HB H1 : Hp} {sd ln : Addr} {S0 L ks : List (List Int)} {σ : L2.St} {is il ix : Nat} {xv : V} {x : List Int} {D : Ends} (hXs : X sd) (hln : HB ln = none) (hls : ln ≠ sd) (hks9 : ks.length ≤ 90000)
    (hs : σ[is]? = some (some (.ref sd))) (hl : σ[il]? = some (some (.ref ln))) (hx : σ[ix]? = some (some xv)) (hxv : aT aI H1 xv x) (hxk : x ∈ ks) (G : USt X HB sd ln S0 L ks H1)
    (k : ∀ H2 L', USt X HB sd ln S0 L' ks H2 → (∃ t, L' = L ++ t) → D.nx σ H2) :
    tIfS (tB (tDNotIn (tVar ix) (tVar is))) (tSeq (sDPut (tVar is) (tVar ix) (tC (.bl true))) (tDrop (tBM K "list" rAppend (tVar il) (tCons (tVar ix) tNil)))) tNext D σ H1 := by
  obtain ⟨sm, ⟨ws, l1, l2⟩, ⟨k2, d1, d2⟩, hnd, hsub⟩ := id G
  refine s_if (b := !(look (seenB (S0 ++ L)) x).isSome) (et_B (ed_notInD (ed_var hx hxv) (ed_ownD hs d1 d2))) (fun hb H2 e2 => ?_) (fun hb H2 e2 => ?_)
  · have hnm : x ∉ S0 ++ L := by
      rw [look_seen] at hb
      simpa using hb
    have hle := nodup_le hnd hsub
    have hdl := d2.length
    have hll := l2.length
    have hle2 : L.length ≤ ks.length := by rw [List.length_append] at hle; omega
    refine s_putD (e2 _ _ d1) (ed_b (b := true)) (ed_ref hs) (ed_var hx (Mo.mo e2 hxv)) (by rw [hdl]; unfold seenB; rw [List.length_map]; omega) fun bw H3 e3 hbw => ?_
    cases hbw
    have eA := e2.trans e3
    have d13 := eA _ _ d1
    rw [putK_snoc (.bl true) (kvP_same eA d2) (look_seen_no hnm)]
    refine s_app (l := ln) (by rw [upd_ne hls]; exact eA _ _ l1) (ed_ref hl) (ed_var hx (Im.upD d13 (Mo.mo eA hxv))) (by omega) fun yv H4 e4 hyv => ?_
    have d14 := e4 _ _ (upd_same (H := H3) (a := sd))
    have l14 : H4 ln = some (.lst ws) := e4 _ _ (by rw [upd_ne hls]; exact eA _ _ l1)
    have ts : TSm H3 (upd H4 ln (.lst (ws ++ [yv]))) := (TSm.upD d13).trans ((TSm.of e4).trans (TSm.upL l14))
    refine k _ (L ++ [x]) ⟨SmX.mut (((sm.trans (SmX.of eA)).trans (SmX.up hXs)).trans (SmX.of e4)) hln, ⟨_, upd_same, ?_⟩, ⟨_, by rw [upd_ne (Ne.symm hls)]; exact d14, ?_⟩, ?_, ?_⟩ ⟨[x], rfl⟩
    · exact Paired.snoc (Paired.imp l2 fun _ _ q => Im.ts ((TSm.of eA).trans ts) q) (Im.upL l14 hyv)
    · rw [← List.append_assoc, seenB_add]
      exact KvP.snoc (kvP_ts ts (kvP_same eA d2)) rfl
    · rw [← List.append_assoc]; exact nodup_add hnd hnm
    · intro y hy
      rw [← List.append_assoc] at hy
      exact (List.mem_append.mp hy).elim (hsub y) fun h => by rw [List.mem_singleton.mp h]; exact hxk
  · exact k H2 L (G.same e2) ⟨[], by simp⟩
end
end Pg

set_option Elab.async false
set_option linter.all false
set_option maxRecDepth 100000
set_option maxHeartbeats 4000000
namespace Pg
open PySem PySem.Spec PyProof.Rows L2 Pf
section
variable {P : Program} {w : World} {K : PySem.W.Frag} {mg : Str → Option Value} {base : Heap}
theorem flatL_snoc (rs : List (List (List Int))) (r : List (List Int)) : flatL (rs ++ [r]) = flatL rs ++ r := by unfold flatL; rw [List.flatMap_append]; simp
theorem ok_rounds_of (B : Bt mg) (c_last_left : Cl P w K mg base CX0 1 "last_left" ["graph", "crowd"] [] SpLast) (d : Here K mg s_rounds_of "rounds_of" []) : Cl P w K mg base CX0 2 "rounds_of" ["graph", "crowd"] [] SpRounds := by
  refine d.cl sc_rounds_of (fun _ _ _ _ _ _ us hl => match us, hl with | [_, _], _ => rfl) (fun _ _ _ _ ⟨_, ⟨_, _, h, _⟩, _⟩ => by rw [h]; rfl) (fun f cdv A outer s H vs Q E hr h => ?_)
  obtain ⟨⟨⟨ρ, ks⟩, c⟩, ⟨v, u, rfl, hg, hc⟩, ⟨hG, hck, hmm, hne⟩, k⟩ := h
  have hG : Gr ρ ks := hG
  have hck : c ∈ ks := hck
  have hne : ∀ x ∈ ks, x ≠ [] := hne
  have hu := hu_of hr
  have hu3 := hu3_of hr
  have hks9 : ks.length ≤ 90000 := hG.few
  refine ⟨_, (pss_cons (ps_set (i := 2) sc_rounds_of.nd rfl (by first | exact Or.inl rfl | exact Or.inr rfl) (pe_callTy (call_dictT rfl hu3) (by rfl) B.dict (by decide +kernel) (pa_cons (pe_lock (pe_lc (own := [("one", 3)]) (g := (gName 3)) (tt := tYes) (te := (tTup (tCons (tVar 3) (tCons (tLst tNil) tNil)))) rfl sc_rounds_of.nd (pi_keys (pv 0)) (blkOk_by (own := [("one", 3)]) (N := ["graph", "crowd", "ahead", "one", "number", "behind", "found", "seen", "line", "at", "other"]) (sc := defScope s_rounds_of) (by decide +kernel)) (fun _ _ _ _ _ => by exact (pg_name (i := 3) sc_rounds_of.nd rfl (by first | exact Or.inl rfl | exact Or.inr rfl))) (fun _ _ _ _ _ => by exact pts_nil) (fun _ _ _ _ _ => by exact (pe_tup (pa_cons (pv 3) (pa_cons (pe_lst pa_nil) pa_nil)))))) pa_nil)))
    (pss_cons (ps_lock (ps_for PassesOwn.never rfl (pi_keys (pv 0)) (pg_name (i := 3) sc_rounds_of.nd rfl (by first | exact Or.inl rfl | exact Or.inr rfl))
    (pss_one (ps_for PassesOwn.never rfl (pi_list (pe_dget hu (pv 0) (pv 3) (fun _ _ => rfl))) (pg_tup rfl (pgs_cons (pg_name (i := 4) sc_rounds_of.nd rfl (by first | exact Or.inl rfl | exact Or.inr rfl)) (pgs_cons (pg_name (i := 5) sc_rounds_of.nd rfl (by first | exact Or.inl rfl | exact Or.inr rfl)) pgs_nil)))
    (pss_one (ps_expr (pe_bm PySem.F.plainAttrs_list PySem.F.slot_list_append PySem.F.type_list_append mt_append (pe_dget hu (pv 2) (pv 5) (fun _ _ => rfl)) (pa_cons (pv 3) pa_nil))))))))
    (pss_cons (ps_set (i := 6) sc_rounds_of.nd rfl (by first | exact Or.inl rfl | exact Or.inr rfl) (pe_lst pa_nil))
    (pss_cons (ps_set (i := 7) sc_rounds_of.nd rfl (by first | exact Or.inl rfl | exact Or.inr rfl) pe_dnewT)
    (pss_cons (ps_for PassesOwn.never rfl (pi_list (pe_cl c_last_left (hr.mono (by first | decide | omega)) (by rfl) pass0 (pa_cons (pv 0) (pa_cons (pv 1) pa_nil)))) (pg_name (i := 3) sc_rounds_of.nd rfl (by first | exact Or.inl rfl | exact Or.inr rfl))
    (pss_cons (ps_set (i := 8) sc_rounds_of.nd rfl (by first | exact Or.inl rfl | exact Or.inr rfl) (pe_lst pa_nil))
    (pss_cons (ps_if (pt_cmp (pc_dnotin hu (pv 3) (pv 7)) (by rfl)) (pss_cons (ps_dput hu (pv 7) (pv 3) pe_bl rfl)
    (pss_one (ps_expr (pe_bm PySem.F.plainAttrs_list PySem.F.slot_list_append PySem.F.type_list_append mt_append (pv 8) (pa_cons (pv 3) pa_nil))))) pss_nil)
    (pss_cons (ps_set (i := 9) sc_rounds_of.nd rfl (by first | exact Or.inl rfl | exact Or.inr rfl) pe_int)
    (pss_cons (ps_while PassesOwn.never (pt_cmpR op_lt (pv 9) (pe_callB call_len_seq (by rfl) B.len PySem.boot_len (pa_cons (pv 8) pa_nil)) (nomark _)) (pss_cons (ps_for PassesOwn.never rfl (pi_list (pe_dget hu (pv 2) (pe_ix ix_list (pv 8) (pv 9) (fun _ _ => rfl)) (fun _ _ => rfl))) (pg_name (i := 10) sc_rounds_of.nd rfl (by first | exact Or.inl rfl | exact Or.inr rfl))
    (pss_one (ps_if (pt_cmp (pc_dnotin hu (pv 10) (pv 7)) (by rfl)) (pss_cons (ps_dput hu (pv 7) (pv 10) pe_bl rfl)
    (pss_one (ps_expr (pe_bm PySem.F.plainAttrs_list PySem.F.slot_list_append PySem.F.type_list_append mt_append (pv 8) (pa_cons (pv 10) pa_nil))))) pss_nil)))
    (pss_one (ps_set (i := 9) sc_rounds_of.nd rfl (by first | exact Or.inl rfl | exact Or.inr rfl) (pe_op op_add (pv 9) pe_int)))))
    (pss_one (ps_if (pt_cmpR op_gt (pe_callB call_len_seq (by rfl) B.len PySem.boot_len (pa_cons (pv 8) pa_nil)) pe_int (nomark _)) (pss_one (ps_expr (pe_bm PySem.F.plainAttrs_list PySem.F.slot_list_append PySem.F.type_list_append mt_append (pv 6) (pa_cons (pe_callB (cr_sortedG hr.units) (by rfl) B.sorted (by decide +kernel) (pa_cons (pv 8) pa_nil)) pa_nil)))) pss_nil)))))))
    (pss_one (ps_ret (pv 6)))))))), ?_⟩
  refine s_ahead (s := aSt) (gr := graphB ρ ks) rfl hg (by rw [graphB_len]; exact hks9) (by rw [graph_keys]; exact hG.nd) (fun _ => rfl) (fun _ => rfl) fun ad as H1 had e1 hA has => ?_
  rw [graph_keys] at hA
  refine walk_ahead (ig := 0) (ia := 2) (ix := 3) (iN := 4) (ib := 5) hG hmm hg had e1 hA has (fun σ => ∃ s3 s4 s5, σ = [some v, some u, some (.ref ad), s3, s4, s5, none, none, none, none, none]) ⟨none, none, none, rfl⟩
    (fun σ x ⟨s3, s4, s5, h⟩ => ⟨some x, s4, s5, by rw [h]; rfl⟩) (fun σ x y ⟨s3, s4, s5, h⟩ => ⟨s3, some x, some y, by rw [h]; rfl⟩) (fun σ ⟨_, _, _, h⟩ => by rw [h]; rfl) (fun σ ⟨_, _, _, h⟩ => by rw [h]; rfl) (fun σ x ⟨_, _, _, h⟩ => by rw [h]; rfl)
    (fun σ x y => by rw [List.getElem?_set_ne (by decide), List.getElem?_set_ne (by decide)]) (fun σ x y ⟨_, _, _, h⟩ => by rw [h]; rfl) ?_
  rintro σ HA ⟨s3, s4, s5, rfl⟩ eA hAh
  have hAkv := hAh.kv
  refine s_asgL (r := aT aI) el_nil fun fo ws H2 hf0 e2 hf hfp => ?_
  cases hfp
  refine s_newD fun sd hd0 => ?_
  have hfd : fo ≠ sd := fun z => by rw [z, hd0] at hf; cases hf
  have hd0A : HA sd = none := e2.free hd0
  have e3 : Same H2 (upd H2 sd (.dT [])) := Same.new hd0
  have eS := eA.trans (e2.trans e3)
  have hf3 : (upd H2 sd (.dT [])) fo = some (.lst []) := e3 _ _ hf
  have hX0 : ∀ a, (a = fo ∨ a = sd) → HA a = none := fun a h => h.elim (fun z => z ▸ hf0) (fun z => z ▸ hd0A)
  refine s_forN (r := aT aI) (post := fun ys => ys.Nodup ∧ ∀ x ∈ ys, x ∈ ks) (fun a => a = fo ∨ a = sd) (fun Q q => ed_callN (p := ((ρ, ks), c)) (eA2 (r := aG) (ed_var rfl (Mo.mo eS hg)) (ed_var rfl (Mo.mo eS hc))) ⟨hG, hck⟩ Q q)
    (fun a h => h.elim (fun z => by rw [z, hf3]; exact fun y => nomatch y) (fun z => by rw [z, upd_same]; exact fun y => nomatch y)) (fun a xs h => h.elim (fun z => by rw [z, hf3]; exact fun y => nomatch y) (fun z => by rw [z, upd_same]; exact fun y => nomatch y))
    (fun xs i σ' H' => ∃ s3 s4 s5 s8 s9 s10 S0 rs, σ' = [some v, some u, some (.ref ad), s3, s4, s5, some (.ref fo), some (.ref sd), s8, s9, s10] ∧ Same HA H' ∧ S0.Nodup ∧ (∀ x ∈ S0, x ∈ ks) ∧ (flatL rs).Perm S0 ∧ (∀ r ∈ rs, r ≠ []) ∧ (∃ fs, H' fo = some (.lst fs) ∧ Paired (aX (fun a => a = fo ∨ a = sd) (aT aI) H') fs rs) ∧ (∃ kvs, H' sd = some (.dT kvs) ∧ KvP aB H' kvs (seenB S0)))
    (fun xs H3 e4 hp => ⟨s3, s4, s5, none, none, none, [], [], rfl, (e2.trans e3).trans e4, List.nodup_nil, (fun x h => nomatch h), List.Perm.refl _, (fun r h => nomatch h), ⟨[], e4 _ _ hf3, .nil⟩, ⟨[], e4 _ _ upd_same, .nil⟩⟩) ?_ ?_
  · rintro xs H3 i x xv σ' HB e4 ⟨hxn, hxk⟩ hxi ⟨s3, s4, s5, s8, s9, s10, S0, rs, rfl, smA, hSn, hSk, hpm, hrn, ⟨fs, hfo, hfs⟩, ⟨kvs, hsd, hkv⟩⟩ hsx hxv
    have hxk' : x ∈ ks := hxk x (List.mem_of_getElem? hxi)
    have hTB : ∀ a ys, (a = fo ∨ a = sd) → HB a ≠ some (.tup ys) := fun a ys h => h.elim (fun z => by rw [z, hfo]; exact fun y => nomatch y) (fun z => by rw [z, hsd]; exact fun y => nomatch y)
    have hBA : ∀ {H'}, SmX (fun a => a = sd) HB H' → Same HA H' := fun h => h.same smA fun a e => hX0 a (Or.inr e)
    have hmo : ∀ {H'}, SmX (fun a => a = sd) HB H' → SmX (fun a => a = fo ∨ a = sd) HB H' := fun h a o n e => h a o (fun z => n (Or.inr z)) e
    refine s_asgL (r := aT aI) el_nil fun ln ws H5 hl0 e5 hl hlp => ?_
    cases hlp
    have hls : ln ≠ sd := fun z => by rw [z, hsd] at hl0; cases hl0
    have hlf : ln ≠ fo := fun z => by rw [z, hfo] at hl0; cases hl0
    dsimp only
    refine s_see (is := 7) (il := 8) (ix := 3) (X := fun a => a = sd) (HB := HB) (S0 := S0) (L := []) (ks := ks) rfl hl0 hls hks9 rfl rfl rfl (Mo.mo e5 hxv) hxk' ⟨SmX.of e5, ⟨[], hl, .nil⟩, ⟨kvs, e5 _ _ hsd, by rw [List.append_nil]; exact kvP_same e5 hkv⟩, by rw [List.append_nil]; exact hSn, by rw [List.append_nil]; exact hSk⟩ fun H6 L1 G1 _ => ?_
    dsimp only
    refine s_asg ed_i fun v0 H7 e7 hv0 => ?_
    cases hv0
    dsimp only
    refine s_while (fun m σ' H' => ∃ n L s10, σ' = [some v, some u, some (.ref ad), some xv, s4, s5, some (.ref fo), some (.ref sd), some (.ref ln), some (.int ((n : Nat) : Int)), s10] ∧ USt (fun a => a = sd) HB sd ln S0 L ks H' ∧ m = ks.length - n) ks.length ⟨0, L1, s10, rfl, G1.same e7, by omega⟩ ?_
    rintro m σ' H8 ⟨n, L, s10, rfl, G2, rfl⟩
    obtain ⟨sm2, ⟨ws2, l1, l2⟩, ⟨k2, d1, d2⟩, hnd, hsub⟩ := id G2
    have hLk : L.length ≤ ks.length := by
      have := nodup_le hnd hsub
      rw [List.length_append] at this; omega
    refine ⟨decide ((n : Int) < (L.length : Int)), et_test (ed_lt (ed_var (r := aI) rfl rfl) (ed_lenL (ed_own rfl l1 l2))), fun hb H9 e9 => ?_, fun hb H9 e9 => ?_⟩
    · have hn : n < L.length := by have := of_decide_eq_true hb; omega
      have hy : L[n]? = some L[n] := List.getElem?_eq_getElem hn
      generalize hye : L[n] = y at hy
      have hyk : y ∈ ks := hsub y (List.mem_append_right _ (List.mem_of_getElem? hy))
      have G3 := G2.same e9
      obtain ⟨sm3, ⟨ws3, l13, l23⟩, _, _, _⟩ := id G3
      have hlk : look (ks.map fun y => (y, aheadOf ρ ks y)) y = some (aheadOf ρ ks y) := by rw [look_map, if_pos hyk]
      refine s_forH (H0 := HA) (r := aT aI) (ed_ixD (s := aAt (aL (aT aI)) HA) (g := ks.map fun y => (y, aheadOf ρ ks y)) (ed_var rfl (aU.d (aU.at (hBA sm3) hAkv))) (ed_ixL (ed_own rfl l13 l23) (ed_var (r := aI) rfl rfl) (atI_nat hy)) hlk)
        (fun i σ' H' => ∃ L' s10, σ' = [some v, some u, some (.ref ad), some xv, s4, s5, some (.ref fo), some (.ref sd), some (.ref ln), some (.int ((n : Nat) : Int)), s10] ∧ USt (fun a => a = sd) HB sd ln S0 L' ks H' ∧ ∃ t, L' = L ++ t)
        (fun H10 e10 => ⟨L, s10, rfl, G3.same e10, [], by simp⟩) (fun i σ' H' ⟨_, _, _, h, _⟩ => hBA h.sm) ?_ ?_
      · rintro j z zv σ' H10 hzj ⟨L', s10, rfl, G4, t, ht⟩ hzv
        have hzk : z ∈ ks := (mem_ahead.mp (List.mem_of_getElem? hzj)).1
        show tIfS _ _ _ _ _ _
        refine s_see (is := 7) (il := 8) (ix := 10) (X := fun a => a = sd) (HB := HB) (S0 := S0) (L := L') (ks := ks) rfl hl0 hls hks9 rfl rfl rfl hzv hzk G4 fun H11 L'' G5 ht' => ?_
        obtain ⟨t', ht'⟩ := ht'
        exact ⟨L'', _, rfl, G5, t ++ t', by rw [ht', ht, List.append_assoc]⟩
      · rintro σ' H10 ⟨L', s10, rfl, G4, t, ht⟩
        dsimp only
        refine s_asg (ed_add (ed_var (r := aI) rfl rfl) ed_i) fun av H11 e11 hav => ?_
        cases hav
        exact ⟨ks.length - (n + 1), by omega, n + 1, L', s10, rfl, G4.same e11, rfl⟩
    · have G3 := G2.same e9
      obtain ⟨sm3, ⟨ws3, l13, l23⟩, ⟨k23, d13, d23⟩, _, _⟩ := id G3
      dsimp only
      refine s_if (b := decide ((0 : Int) < (L.length : Int))) (et_test (ed_gt (ed_lenL (ed_own (i := 8) rfl l13 l23)) ed_i)) (fun hb2 H10 e10 => ?_) (fun hb2 H10 e10 => ?_)
      · have hLpos : 0 < L.length := by have := of_decide_eq_true hb2; omega
        have G4 := G3.same e10
        obtain ⟨sm4, ⟨ws4, l14, l24⟩, ⟨k24, d14, d24⟩, hnd4, hsub4⟩ := id G4
        have hfo10 : H10 fo = some (.lst fs) := sm4 fo _ hfd hfo
        have hfsl := hfs.length
        have hrl := flat_len hrn
        have hrl2 := hpm.length_eq
        have hSl := nodup_le hSn hSk
        have hX10 : ∀ a, (a = fo ∨ a = sd) → H10 a ≠ none := fun a h => h.elim (fun z => by rw [z, hfo10]; exact fun y => nomatch y) (fun z => by rw [z, d14]; exact fun y => nomatch y)
        refine s_app (l := fo) (r := aX (fun a => a = fo ∨ a = sd) (aT aI)) (x := sortC L) hfo10 (ed_ref rfl) (EdL.edX (el_sortedC (ed_own rfl l14 l24) fun z hz => hne z (hsub4 z (List.mem_append_right _ hz))) hX10) (by omega) fun rv H11 e11 hrv => ?_
        have f11 := e11 _ _ hfo10
        have smE : SmX (fun a => a = fo ∨ a = sd) HB (upd H11 fo (.lst (fs ++ [rv]))) := ((hmo sm4).trans (SmX.of e11)).trans (SmX.up (Or.inl rfl))
        have lsE := smE.lsm hTB
        refine ⟨⟨_, _, _, _, _, _, S0 ++ L, rs ++ [sortC L], rfl, smE.same smA hX0, hnd4, hsub4, ?_, ?_, ⟨_, upd_same, ?_⟩, ⟨k24, by rw [upd_ne (Ne.symm hfd)]; exact e11 _ _ d14, kvP_ts ((TSm.of e11).trans (TSm.upL f11)) d24⟩⟩, hsx.trans smE⟩
        · rw [flatL_snoc]
          exact hpm.append (sortC_perm L)
        · intro r hr
          rcases List.mem_append.mp hr with h | h
          · exact hrn r h
          · rw [List.mem_singleton.mp h]
            intro z
            have := length_sortC L
            rw [z] at this
            simp at this; omega
        · exact Paired.app (Paired.imp hfs fun _ _ q => aX.ls lsE q) (.cons (aX.ls (LSm.upL (Or.inl rfl) f11) hrv) .nil)
      · have hL0 : L = [] := by
          cases L with
          | nil => rfl
          | cons a b => exact absurd (of_decide_eq_false hb2) (by simp)
        subst hL0
        have G4 := G3.same e10
        obtain ⟨sm4, _, ⟨k24, d14, d24⟩, hnd4, hsub4⟩ := id G4
        rw [List.append_nil] at d24
        exact ⟨⟨_, _, _, _, _, _, S0, rs, rfl, hBA sm4, hSn, hSk, hpm, hrn, ⟨fs, sm4 fo _ hfd hfo, Paired.imp hfs fun _ _ q => aX.ls ((hmo sm4).lsm hTB) q⟩, ⟨k24, d14, d24⟩⟩, hsx.trans (hmo sm4)⟩
  · rintro xs σ' H3 hp ⟨s3, s4, s5, s8, s9, s10, S0, rs, rfl, smA, hSn, hSk, hpm, hrn, ⟨fs, hfo, hfs⟩, _⟩
    dsimp only
    refine s_ret (r := aL (aL (aT aI))) (x := rs) (ed_var rfl ⟨fo, fs, rfl, hfo, Paired.imp hfs fun _ _ q => aX.l q⟩) fun rv H4 e4 hrv => k rv H4 rs ((eA.trans smA).trans e4) hrv ⟨hpm.nodup_iff.mpr hSn, fun x hx => hSk x (hpm.mem_iff.mp hx), hrn⟩
end
end Pg

set_option Elab.async false
set_option linter.all false
set_option maxRecDepth 100000
set_option maxHeartbeats 4000000
namespace Pg
open PySem PySem.Spec PyProof.Rows L2 Pf
open PySem.W (EachIs AllAlike Sortable dataLe sorted_data dataKind alike alikeAll)
def encL (cs : List (List Int)) : PyData := .list (cs.map encC)
theorem alikeAll_enc : ∀ xs ys : List (List Int), alikeAll (xs.map encC) (ys.map encC) = true
  | [], _ => by simp [alikeAll]
  | _ :: _, [] => by simp [alikeAll]
  | x :: xs, y :: ys => by
    show alikeAll (encC x :: xs.map encC) (encC y :: ys.map encC) = true
    rw [alikeAll, alikeAll_enc xs ys, encC_alike]; rfl
theorem encL_alike (b c : List (List Int)) : alike (encL b) (encL c) = true := by
  show alike (.list _) (.list _) = true
  rw [alike]; exact alikeAll_enc b c
theorem depthAll_enc : ∀ xs : List (List Int), PyData.depthAll (xs.map encC) ≤ 18
  | [] => by simp [PyData.depthAll]
  | x :: xs => by
    show PyData.depthAll (encC x :: xs.map encC) ≤ 18
    have h := depthAll_enc xs
    have h2 : (encC x).depth ≤ 18 := by
      show (PyData.tuple (x.map .int)).depth ≤ 18
      have := PySem.W.depth_ints x
      simp only [PyData.depth, this]
      omega
    rw [PyData.depthAll]
    omega
theorem depth_encL (c : List (List Int)) : (encL c).depth ≤ 20 := by
  show (PyData.list (c.map encC)).depth ≤ 20
  have := depthAll_enc c
  simp only [PyData.depth]
  omega
def sortL (rs : List (List (List Int))) : List (List (List Int)) := rs.mergeSort (dataLe false encL)
theorem sortL_perm (xs : List (List (List Int))) : (sortL xs).Perm xs := List.mergeSort_perm _ _
section
variable {α β : Type} {K : PySem.W.Frag} {σ : L2.St} {H : Hp} {te te2 : TE} {r : Rl α} {s : Rl β} {D : Ends} {g : TG} {tt : TT} {vs : List Nat}
theorem dpAll_crowds {H : Hp} : ∀ {vs : List V} {cs : List (List Int)}, Paired (aT aI H) vs cs → DpAll K H vs (cs.map encC)
  | _, _, .nil => .nil
  | _, _, .cons h t => .cons (by obtain ⟨b, e, h5⟩ := aTI_iff.mp h; rw [e]; exact dp_crowd h5) (dpAll_crowds t)
theorem zipG_fst {β : Type} : ∀ {vs : List V} {xs : List β}, vs.length = xs.length → (vs.zip xs).map (·.1) = vs
  | [], [], _ => rfl
  | v :: vs, x :: xs, h => by rw [List.zip_cons_cons, List.map_cons, zipG_fst (by simpa using h)]
  | [], _ :: _, h => by cases h
  | _ :: _, [], h => by cases h
theorem zipG_snd {β : Type} : ∀ {vs : List V} {xs : List β}, vs.length = xs.length → (vs.zip xs).map (·.2) = xs
  | [], [], _ => rfl
  | v :: vs, x :: xs, h => by rw [List.zip_cons_cons, List.map_cons, zipG_snd (by simpa using h)]
  | [], _ :: _, h => by cases h
  | _ :: _, [], h => by cases h
theorem zipG_mem {β : Type} {F : V → β → Prop} : ∀ {vs : List V} {xs : List β}, Paired F vs xs → ∀ p ∈ vs.zip xs, F p.1 p.2
  | _, _, .nil, p, h => by cases h
  | _, _, .cons a t, p, h => by
    rw [List.zip_cons_cons] at h
    rcases List.mem_cons.mp h with rfl | h
    · exact a
    · exact zipG_mem t p h
theorem zipG_back {β : Type} {F : V → β → Prop} : ∀ {ps : List (V × β)}, (∀ p ∈ ps, F p.1 p.2) → Paired F (ps.map (·.1)) (ps.map (·.2))
  | [], _ => .nil
  | p :: ps, h => .cons (h p (List.mem_cons_self ..)) (zipG_back fun q hq => h q (List.mem_cons_of_mem _ hq))
theorem el_sortedL {xs : List (List (List Int))} (h : Ed te σ H (aL (aL (aT aI))) xs) : EdL (tCB (rSortedG K) (tCons te tNil)) σ H (aL (aT aI)) (sortL xs) := fun H1 e Q q =>
  h H1 e _ fun v H2 e2 ⟨a, vs, h1, h2, h3⟩ => by
    have hl := h3.length
    have em : ((vs.zip xs).map fun p => (p.1, encL p.2)).map (·.1) = vs := by
      rw [List.map_map]; exact zipG_fst hl
    have em2 : ((vs.zip xs).map fun p => (p.1, encL p.2)).map (·.2) = xs.map encL := by
      have := congrArg (List.map encL) (zipG_snd hl)
      rw [List.map_map] at this
      rw [List.map_map]; exact this
    refine ⟨a, (vs.zip xs).map fun p => (p.1, encL p.2), by rw [h1], by rw [em]; exact SqL.of h2, ?_, ?_, ?_, ?_, fun p hp => q p _ _ (e2.free hp) (e2.trans (Same.new hp)) upd_same ?_⟩
    · intro b hb
      obtain ⟨z, hz, rfl⟩ := List.mem_map.mp hb
      obtain ⟨b, ws, h4, h5, h6⟩ := zipG_mem h3 z hz
      show Dp K H2 z.1 (encL z.2)
      rw [h4]; exact .lst (SqL.of h5) (dpAll_crowds h6)
    · rw [em2]; exact PySem.W.AllAlike.of encL_alike
    · rw [em2]
      exact Sortable.others fun b => ⟨fun z => (by cases z), fun xs z => (by cases z)⟩
    · intro b hb
      obtain ⟨z, hz, rfl⟩ := List.mem_map.mp hb
      exact depth_encL z.2
    · have e5 : (((vs.zip xs).map fun p => (p.1, encL p.2)).mergeSort (dataLe false (·.2))).map (·.1) = ((vs.zip xs).mergeSort (dataLe false fun p => encL p.2)).map (·.1) := by
        have := ms_map (f := fun p : V × List (List Int) => (p.1, encL p.2)) (le := dataLe false (fun p : V × PyData => p.2)) (vs.zip xs)
        rw [← this, List.map_map]; rfl
      have e6 : ((vs.zip xs).mergeSort (dataLe false fun p => encL p.2)).map (·.2) = sortL xs := by
        have := ms_map (f := fun p : V × List (List Int) => p.2) (le := dataLe false encL) (vs.zip xs)
        rw [zipG_snd hl] at this
        exact this
      rw [e5, ← e6]
      refine zipG_back fun z hz => ?_
      have hz' : z ∈ vs.zip xs := (List.mergeSort_perm _ _).mem_iff.mp hz
      exact Mo.mo (Same.new hp) (zipG_mem h3 z hz')
theorem cb_src {rr : List V → Hp → VK → Prop} {post : α → Prop} {Q : VK} (h : Ed te σ H (aE r post) ()) (f : ∀ v H1 y, Same H H1 → r H1 v y → post y → tCB rr (tCons (tLc (iList K (tC v)) g tt te2 vs) tNil) σ H1 Q) : tCB rr (tCons (tLc (iList K te) g tt te2 vs) tNil) σ H Q := h H (Same.refl _) _ fun v H1 e ⟨y, hy, hp⟩ => f v H1 y e hy hp
end
def shutB (ρ : Rule) (cs : List (List Int)) : Bool := (cs.map fun x => ((stepsB ρ x).map fun b => decide (b.2 ∈ cs)).all id).all id
section
variable {P : Program} {w : World} {K : PySem.W.Frag} {mg : Str → Option Value} {base : Heap}
abbrev SpShut : Sp := Sp2 aG (aL (aT aI)) (fun p cs => Gr p.1 p.2 ∧ cs.Nodup ∧ (∀ x ∈ cs, x ∈ p.2) ∧ p.1.meets.length ≤ 90000) aB (fun p cs => shutB p.1 cs)
theorem ok_is_shut (B : Bt mg) (d : Here K mg s_is_shut "is_shut" []) : Cl P w K mg base CX0 1 "is_shut" ["graph", "crowds"] [] SpShut := by
  refine d.cl sc_is_shut (fun _ _ _ _ _ _ us hl => match us, hl with | [_, _], _ => rfl) len2 (fun f cdv A outer s H vs Q E hr h => ?_)
  obtain ⟨v, u, ⟨ρ, ks⟩, cs, rfl, hg, hcs, ⟨hG, hnd, hsub, hm9⟩, k⟩ := h
  have hG : Gr ρ ks := hG
  have hsub : ∀ x ∈ cs, x ∈ ks := hsub
  have hu := hu_of hr
  have hu3 := hu3_of hr
  have hks9 : ks.length ≤ 90000 := hG.few
  have hcl := nodup_le hnd hsub
  refine ⟨_, (pss_cons (ps_set (i := 2) sc_is_shut.nd rfl (by first | exact Or.inl rfl | exact Or.inr rfl) (pe_callTy (call_dictT rfl hu3) (by rfl) B.dict (by decide +kernel) (pa_cons (pe_lc (own := [("one", 3)]) (g := (gName 3)) (tt := tYes) (te := (tTup (tCons (tVar 3) (tCons (tC _) tNil)))) rfl sc_is_shut.nd (pi_list (pv 1)) (blkOk_by (own := [("one", 3)]) (N := ["graph", "crowds", "inside", "one", "number", "behind"]) (sc := defScope s_is_shut) (by decide +kernel)) (fun _ _ _ _ _ => by exact (pg_name (i := 3) sc_is_shut.nd rfl (by first | exact Or.inl rfl | exact Or.inr rfl))) (fun _ _ _ _ _ => by exact pts_nil) (fun _ _ _ _ _ => by exact (pe_tup (pa_cons (pv 3) (pa_cons pe_bl pa_nil))))) pa_nil)))
    (pss_one (ps_ret (pe_callB (cr_all rfl) (by rfl) B.all (by decide +kernel) (pa_cons (pe_lc (own := [("one", 3)]) (g := (gName 3)) (tt := tYes) (te := (tCB (rAll K) (tCons (tLc (iList K (tDGet (tVar 0) (tVar 3))) (gTup K 2 (gCons (gName 4) (gCons (gName 5) gNil))) tYes (tDIn (tVar 5) (tVar 2)) [4, 5]) tNil))) rfl sc_is_shut.nd (pi_list (pv 1)) (blkOk_by (own := [("one", 3)]) (N := ["graph", "crowds", "inside", "one", "number", "behind"]) (sc := defScope s_is_shut) (by decide +kernel)) (fun _ _ _ _ _ => by exact (pg_name (i := 3) sc_is_shut.nd rfl (by first | exact Or.inl rfl | exact Or.inr rfl))) (fun _ _ _ _ _ => by exact pts_nil) (fun _ _ _ _ _ => by exact (pe_callB (cr_all rfl) (by rfl) B.all (by decide +kernel) (pa_cons (pe_lc (own := [("number", 4), ("behind", 5)]) (g := (gTup K 2 (gCons (gName 4) (gCons (gName 5) gNil)))) (tt := tYes) (te := (tDIn (tVar 5) (tVar 2))) rfl sc_is_shut.nd (pi_list (pe_dget hu (pv 0) (pv 3) (fun _ _ => rfl))) (blkOk_by (own := [("number", 4), ("behind", 5)]) (N := ["graph", "crowds", "inside", "one", "number", "behind"]) (sc := { kind := ScopeKind.function, names := [(".0", NameKind.local), ("one", NameKind.local), ("all", NameKind.globalImplicit), ("graph", NameKind.cell), ("inside", NameKind.cell)], isGenerator := false, isCoroutine := false }) (by decide +kernel)) (fun _ _ _ _ _ => by exact (pg_tup rfl (pgs_cons (pg_name (i := 4) sc_is_shut.nd rfl (by first | exact Or.inl rfl | exact Or.inr rfl)) (pgs_cons (pg_name (i := 5) sc_is_shut.nd rfl (by first | exact Or.inl rfl | exact Or.inr rfl)) pgs_nil)))) (fun _ _ _ _ _ => by exact pts_nil) (fun _ _ _ _ _ => by exact (pe_cmp (pc_din hu (pv 5) (pv 2)) (by rfl)))) pa_nil)))) pa_nil))))), ?_⟩
  refine s_asgD (s := aB) (gr := cs.map fun x => (x, true)) (d_dict (EdL.ed (el_is (el_lc1 (t := fun _ => true) (f := fun x => (x, true)) (u := aP (aT aI) aB) (src_list (ed_var rfl hcs)) (Nat.le_trans hcl hks9) (fun _ => rfl) (fun x xv H2 e2 hx hxv => et_yes) (fun x xv H2 e2 hx hxv _ => ed_pair (ed_var rfl hxv) ed_b)) (by rw [List.filter_eq_self.mpr (fun _ _ => rfl)]))) (by rw [fst_true]; exact hnd)) fun io ikv H1 hi0 e1 hi hip => ?_
  dsimp only
  refine s_ret (ed_allL (EdL.ed (el_is (el_lc1 (t := fun _ => true) (f := fun x => ((stepsB ρ x).map fun b => decide (b.2 ∈ cs)).all id) (u := aB) (src_list (ed_var rfl (Mo.mo e1 hcs))) (Nat.le_trans hcl hks9) (fun _ => rfl) (fun x xv H2 e2 hx hxv => et_yes) (fun x xv H2 e2 hx hxv _ => ed_allL (EdL.ed (el_is (el_lc2 (t := fun _ => true) (f := fun b => decide (b.2 ∈ cs)) (u := aB) (src_list (ed_ixD (s := aSt) (g := graphB ρ ks) (ed_var rfl (aU.d (Mo.mo (r := aU aSt) (e1.trans e2) hg))) (ed_var rfl hxv) (by rw [look_graph, if_pos (hsub x hx)]))) (Nat.le_trans (stepsB_len ρ x) ?_) (fun _ _ => rfl) (fun b v1 v2 H3 e3 hb h1 h2 => et_yes) (fun b v1 v2 H3 e3 hb h1 h2 _ => ed_is (ed_inD (s := aB) (g := cs.map fun x => (x, true)) (ed_var rfl h2) (ed_var rfl ⟨io, ikv, rfl, Rd.of ((e2.trans e3) _ _ hi), kvP_same (e2.trans e3) hip⟩)) ?_)) (by rw [List.filter_eq_self.mpr (fun _ _ => rfl)]))))) (by rw [List.filter_eq_self.mpr (fun _ _ => rfl)])))) fun rv H2 e2 hrv => k rv H2 (e1.trans e2) hrv
  · exact hm9
  · exact look_seen cs b.2
theorem flat_mem {rs : List (List (List Int))} {r : List (List Int)} (h : r ∈ rs) : ∀ x ∈ r, x ∈ flatL rs := fun x hx => List.mem_flatMap.mpr ⟨r, h, hx⟩
theorem flat_nodup : ∀ {rs : List (List (List Int))} {r : List (List Int)}, (flatL rs).Nodup → r ∈ rs → r.Nodup
  | r0 :: rs, r, h, hm => by
    have e : flatL (r0 :: rs) = r0 ++ flatL rs := rfl
    rw [e] at h
    rcases List.mem_cons.mp hm with rfl | hm
    · exact (List.nodup_append.mp h).1
    · exact flat_nodup (List.nodup_append.mp h).2.1 hm
def PreEn (p : Rule × List Int × Int) : Prop := PreG p ∧ p.2.1 ≠ [] ∧ ∀ S, Comes p.1 p.2.1 S → S.length * p.1.meets.length ≤ 90000
def PostEn (p : Rule × List Int × Int) (rs : List (List (List Int))) : Prop := ∃ ks rs0, KeysG p.1 p.2.1 ks ∧ (flatL rs0).Nodup ∧ (∀ x ∈ flatL rs0, x ∈ ks) ∧ rs = sortL (rs0.filter fun r => shutB p.1 r)
abbrev SpEnds (C : Addr) : Sp := SpX (A3 aR (aT aI) aI) PreEn OkG (aL (aL (aT aI))) PostEn C
theorem ok_ends_of (B : Bt mg) {C : Addr} (c_graph_of : Cl P w K mg base (L2.CX P w) 4 "graph_of" ["rule", "crowd", "limit"] [] (SpGr C)) (c_rounds_of : Cl P w K mg base CX0 2 "rounds_of" ["graph", "crowd"] [] SpRounds) (c_is_shut : Cl P w K mg base CX0 1 "is_shut" ["graph", "crowds"] [] SpShut) (d : Here K mg s_ends_of "ends_of" [.int 1000]) :
    Cl P w K mg base (L2.CX P w) 5 "ends_of" ["rule", "crowd", "limit"] [] (SpEnds C) ∧ Cl P w K mg base (L2.CX P w) 5 "ends_of" ["rule", "crowd", "limit"] [.int 1000] (SpEnds C) := by
  refine d.clXd sc_ends_of 2 rfl (fun _ _ _ _ _ _ _ us its h1 h2 => match us, its, h1, h2 with | [_, _], [_], _, _ => ⟨_, rfl, rfl⟩) (fun _ _ _ _ _ _ _ us its h1 h2 => match us, its, h1, h2 with | [_, _, _], [_], _, _ => ⟨_, rfl, rfl⟩) (fun _ _ _ _ ⟨_, ⟨_, _, _, h, _⟩, _⟩ => by rw [h]; rfl) (fun f cdv A outer s H vs Q E hr h => ?_)
  obtain ⟨⟨ρ, c, lim⟩, ⟨v, u, w, rfl, hρ, hc, hw⟩, ⟨hp, hne, hm⟩, kt, kf⟩ := h
  have hu := hu_of hr
  refine ⟨_, (pss_cons (ps_set (i := 3) sc_ends_of.nd rfl (by first | exact Or.inl rfl | exact Or.inr rfl) (pe_clS c_graph_of (hr.mono (by first | decide | omega)) (by rfl) (fun σ => passAt (W := wE E) (takes_of rfl rfl rfl rfl) σ) (pa_cons (pv 0) (pa_cons (pv 1) (pa_cons (pv 2) pa_nil)))))
    (pss_one (ps_ret (pe_callB (cr_sortedG hr.units) (by rfl) B.sorted (by decide +kernel) (pa_cons (pe_lc (own := [("one", 4)]) (g := (gName 4)) (tt := (tB (tCall _ _ _ (tCons (tVar 3) (tCons (tVar 4) tNil))))) (te := (tVar 4)) rfl sc_ends_of.nd (pi_list (pe_cl c_rounds_of (hr.mono (by first | decide | omega)) (by rfl) pass0 (pa_cons (pv 3) (pa_cons (pv 1) pa_nil)))) (blkOk_by (own := [("one", 4)]) (N := ["rule", "crowd", "limit", "graph", "one"]) (sc := defScope s_ends_of) (by decide +kernel)) (fun _ _ _ _ _ => by exact (pg_name (i := 4) sc_ends_of.nd rfl (by first | exact Or.inl rfl | exact Or.inr rfl))) (fun _ _ _ _ _ => by exact (pts_one (pt_val (pe_cl c_is_shut (hr.mono (by first | decide | omega)) (by rfl) pass0 (pa_cons (pv 3) (pa_cons (pv 4) pa_nil)))))) (fun _ _ _ _ _ => by exact (pv 4))) pa_nil))))), ?_⟩
  by_cases ho : OkG (ρ, c, lim)
  case neg => exact s_xasg (ex_callX (p := (ρ, c, lim)) (eA3 (ed_var rfl hρ) (ed_var rfl hc) (ed_var rfl hw)) hp ho fun H1 e => kf ho H1 e)
  refine s_asg (ed_callX (p := (ρ, c, lim)) (eA3 (ed_var rfl hρ) (ed_var rfl hc) (ed_var rfl hw)) hp ho) fun gv H1 e1 ⟨g, hgv, ks, hg, hk⟩ => ?_
  have hk : KeysG ρ c ks := hk
  have hG := hk.gr hp
  have hmm : ks.length * ρ.meets.length ≤ 90000 := hm ks hk.1
  have hks9 : ks.length ≤ 90000 := hG.few
  have hgv' : aG H1 gv (ρ, ks) := by show aU aSt H1 gv (graphB ρ ks); rw [← show g = graphB ρ ks from hg]; exact hgv
  have hne' : ∀ x ∈ ks, x ≠ [] := fun x hx => ne_reach hne ((hk.1.2 x).mp hx)
  dsimp only
  refine cb_src (r := aL (aL (aT aI))) (post := fun rs => (flatL rs).Nodup ∧ (∀ x ∈ flatL rs, x ∈ ks) ∧ ∀ r ∈ rs, r ≠ []) (ed_callP (p := ((ρ, ks), c)) (eA2 (r := aG) (ed_var rfl hgv') (ed_var rfl (Mo.mo e1 hc))) ⟨hG, (hk.1.2 c).mpr .refl, hmm, hne'⟩) fun rv H2 rs e2 hrv ⟨hn, hs, hnn⟩ => ?_
  have hrl : rs.length ≤ 90000 := by
    have h1 := flat_len hnn
    have h2 := nodup_le hn hs
    omega
  have hrv2 : aL (aAt (aL (aT aI)) H2) H2 rv rs := hrv
  refine el_sortedL (xs := rs.filter fun r => shutB ρ r) (fun H3 e3 Q' q' => (EdL.ed (el_is (el_lc1 (r := aAt (aL (aT aI)) H2) (t := fun r => shutB ρ r) (f := id) (u := aAt (aL (aT aI)) H2) (src_list (ed_v hrv2)) hrl (fun _ => rfl) (fun r rvv H4 e4 hr hrr => et_B (ed_call2 (x := (ρ, ks)) (y := r) (ed_var rfl (Mo.mo (r := aG) (e2.trans e4) hgv')) (ed_var rfl (Mo.mo (r := aL (aT aI)) e4 hrr)) ⟨hG, flat_nodup hn hr, fun x hx => hs x (flat_mem hr x hx), hp.1.few⟩)) (fun r rvv H4 e4 hr hrr _ => ed_var rfl hrr)) (by rw [List.map_id]))) H3 e3 Q' fun lv H4 e4 ⟨a, ws, h1, h2, h3⟩ => q' lv H4 e4 ⟨a, ws, h1, h2, Paired.imp h3 fun _ _ q => Mo.mo (r := aL (aT aI)) (e3.trans e4) q⟩) H2 (Same.refl _) _ fun l ws H3 hl e3 hl3 hp3 => ?_
  exact kt ho _ H3 _ ((e1.trans e2).trans e3) ⟨l, ws, rfl, hl3, hp3⟩ ⟨ks, rs, hk, hn, hs, rfl⟩
end
end Pg

set_option Elab.async false
set_option linter.all false
set_option maxRecDepth 100000
set_option maxHeartbeats 4000000
namespace Pg
open PySem PySem.Spec PyProof.Rows L2 Pf
theorem Path.app {ρ : Rule} {a b c : List Int} {xs ys : List Int} (h : Path ρ a xs b) (h' : Path ρ b ys c) : Path ρ a (xs ++ ys) c := by
  induction h' with
  | nil => rw [List.append_nil]; exact h
  | snoc _ hb ih => rw [← List.append_assoc]; exact .snoc ih hb
theorem kvP_drop {β : Type} {r : Rl β} {H : Hp} : ∀ {kvs : List (List L2.Key × V)} {g : List (List Int × β)} (c : List Int), KvP r H kvs g → KvP r H (dropK kvs (kk c)) (g.filter fun p => decide (p.1 ≠ c))
  | _, _, c, .nil => .nil
  | p :: kvs, q :: g, c, .cons h t => by
    have ih := kvP_drop c t
    by_cases e : q.1 = c
    · have e1 : p.1 = kk c := by rw [h.1, e]
      rw [dropK_pos e1, List.filter_cons, if_neg (by simp [e])]
      exact ih
    · have e1 : ¬ p.1 = kk c := fun z => e (kk_inj (h.1.symm.trans z))
      rw [dropK_neg e1, List.filter_cons, if_pos (by simp [e])]
      exact .cons h ih
section
variable {α β : Type} {K : PySem.W.Frag} {σ : L2.St} {H : Hp} {te te2 to : TE} {r : Rl α} {s : Rl β} {D : Ends}
theorem s_popD [Ms s] {i : Nat} {d : Addr} {kvs : List (List L2.Key × V)} {g : List (List Int × β)} {c : List Int} (h : σ[i]? = some (some (.ref d))) (hd : H d = some (.dT kvs)) (hk : KvP s H kvs g) (he : Ed te σ H (aT aI) c) (hc : c ∈ g.map (·.1)) (k : ∀ H1, Same H H1 → D.nx σ (upd H1 d (.dT (dropK kvs (kk c))))) :
    tDrop (tBM K "dict" rPopT1 (tVar i) (tCons te tNil)) D σ H := by
  refine ⟨.ref d, h, Or.inr (Or.inr (Or.inl ⟨rfl, Or.inr ⟨kvs, hd⟩⟩)), he H (Same.refl _) _ fun v H1 e hv => ?_⟩
  obtain ⟨b, rfl, hb⟩ := aTI_iff.mp hv
  obtain ⟨x, hx⟩ := Option.isSome_iff_exists.mp (look_isSome_iff.mpr hc)
  obtain ⟨v, hv1, _⟩ := KvP.yes (kvP_same e hk) hx
  exact ⟨d, kvs, kk c, b, v, rfl, rfl, e _ _ hd, by rw [kk_kV]; exact hb, hv1, k H1 e⟩
theorem s_extE {l : Addr} {ws : List V} {post : List α → Prop} (hl : H l = some (.lst ws)) (ho : Ed to σ H (aV (.ref l)) ()) (h : Ed te σ H (aE (aL r) post) ()) (hz : ∀ ys, post ys → ws.length + ys.length ≤ 100000) (k : ∀ us ys H1, Same H H1 → Paired (r H1) us ys → post ys → D.nx σ (upd H1 l (.lst (ws ++ us)))) :
    tDrop (tBM K "list" rExtend to (tCons te tNil)) D σ H := ho H (Same.refl H) _ fun o H1 e1 h1 => by
  cases h1
  exact ⟨Or.inl ⟨rfl, ws, SqL.of (e1 l _ hl)⟩, h H1 e1 _ fun v H2 e2 ⟨ys, ⟨b, us, h3, h4, h5⟩, hp⟩ => ⟨l, b, ws, us, rfl, by rw [h3], e2 l _ (e1 l _ hl), h4, sz_of (by rw [h5.length]; exact hz ys hp), k us ys H2 (e1.trans e2) h5 hp⟩⟩
end
section
variable {P : Program} {w : World} {K : PySem.W.Frag} {mg : Str → Option Value} {base : Heap}
abbrev Arg4R := Rule × List Int × List (List Int) × Int
structure PreRi (p : Arg4R) : Prop where
  g : PreG (p.1, p.2.1, p.2.2.2)
  nd : p.2.2.1.Nodup
  ne : p.2.2.1 ≠ []
  re : ∀ x ∈ p.2.2.1, Reach p.1 p.2.1 x
  mu : ∀ x ∈ p.2.2.1, ∀ y ∈ p.2.2.1, Reach p.1 x y
  sz : ∀ S, Comes p.1 p.2.1 S → (p.2.2.1.length + 1) * S.length ≤ 90000
def OkRi (p : Arg4R) : Prop := OkG (p.1, p.2.1, p.2.2.2)
def PostRi (p : Arg4R) (q : List Int × List Int) : Prop := ∃ f, f ∈ p.2.2.1 ∧ Path p.1 p.2.1 q.1 f ∧ Path p.1 f q.2 f ∧ ∀ x ∈ p.2.2.1, ∃ a b, q.2 = a ++ b ∧ Path p.1 f a x ∧ Path p.1 x b f
abbrev SpRing (C : Addr) : Sp := SpX (A4 aR (aT aI) (aL (aT aI)) aI) PreRi OkRi (aP (aT aI) (aT aI)) PostRi C
theorem tru_keys (xs : List (List Int)) (c : List Int) : ((xs.map fun x => (x, true)).filter fun p => decide (p.1 ≠ c)) = (xs.filter fun x => decide (x ≠ c)).map fun x => (x, true) := by
  rw [List.filter_map]; rfl
theorem filter_lt {xs : List (List Int)} {c : List Int} (h : c ∈ xs) : (xs.filter fun x => decide (x ≠ c)).length < xs.length := by
  refine Nat.lt_of_le_of_ne (List.length_filter_le _ _) fun e => ?_
  have := List.length_filter_eq_length_iff.mp e c h
  simp at this
theorem ok_ring_to (B : Bt mg) {C : Addr} (c_graph_of : Cl P w K mg base (L2.CX P w) 4 "graph_of" ["rule", "crowd", "limit"] [] (SpGr C)) (c_row_to : Cl P w K mg base CX0 1 "row_to" ["graph", "crowd", "goals"] [] SpRow) (d : Here K mg s_ring_to "ring_to" [.int 1000]) :
    Cl P w K mg base (L2.CX P w) 5 "ring_to" ["rule", "crowd", "end", "limit"] [] (SpRing C) ∧ Cl P w K mg base (L2.CX P w) 5 "ring_to" ["rule", "crowd", "end", "limit"] [.int 1000] (SpRing C) := by
  refine d.clXd sc_ring_to 3 rfl (fun _ _ _ _ _ _ _ us its h1 h2 => match us, its, h1, h2 with | [_, _, _], [_], _, _ => ⟨_, rfl, rfl⟩) (fun _ _ _ _ _ _ _ us its h1 h2 => match us, its, h1, h2 with | [_, _, _, _], [_], _, _ => ⟨_, rfl, rfl⟩) (fun _ _ _ _ ⟨_, ⟨_, _, _, _, h, _⟩, _⟩ => by rw [h]; rfl) (fun f cdv A outer s H vs Q E hr h => ?_)
  obtain ⟨⟨ρ, c, en, lim⟩, ⟨v, u, ev, w, rfl, hρ, hc, hen, hw⟩, ⟨pg, pnd, pne, pre, pmu, psz⟩, kt, kf⟩ := h
  have pg : PreG (ρ, c, lim) := pg
  have hen : aL (aT aI) H ev en := hen
  have pre : ∀ x ∈ en, Reach ρ c x := pre
  have pmu : ∀ x ∈ en, ∀ y ∈ en, Reach ρ x y := pmu
  have pnd : en.Nodup := pnd
  have pne : en ≠ [] := pne
  have hu := hu_of hr
  have hu3 := hu3_of hr
  refine ⟨_, (pss_cons (ps_set (i := 4) sc_ring_to.nd rfl (by first | exact Or.inl rfl | exact Or.inr rfl) (pe_clS c_graph_of (hr.mono (by first | decide | omega)) (by rfl) (fun σ => passAt (W := wE E) (takes_of rfl rfl rfl rfl) σ) (pa_cons (pv 0) (pa_cons (pv 1) (pa_cons (pv 3) pa_nil)))))
    (pss_cons (ps_set (i := 5) sc_ring_to.nd rfl (by first | exact Or.inl rfl | exact Or.inr rfl) (pe_callTy (call_dictT rfl hu3) (by rfl) B.dict (by decide +kernel) (pa_cons (pe_lc (own := [("one", 11)]) (g := (gName 11)) (tt := tYes) (te := (tTup (tCons (tVar 11) (tCons (tC _) tNil)))) rfl sc_ring_to.nd (pi_list (pv 2)) (blkOk_by (own := [("one", 11)]) (N := ["rule", "crowd", "end", "limit", "graph", "left", "way", "first", "ring", "here", "numbers", "one"]) (sc := defScope s_ring_to) (by decide +kernel)) (fun _ _ _ _ _ => by exact (pg_name (i := 11) sc_ring_to.nd rfl (by first | exact Or.inl rfl | exact Or.inr rfl))) (fun _ _ _ _ _ => by exact pts_nil) (fun _ _ _ _ _ => by exact (pe_tup (pa_cons (pv 11) (pa_cons pe_bl pa_nil))))) pa_nil)))
    (pss_cons (ps_asg (pe_cl c_row_to (hr.mono (by first | decide | omega)) (by rfl) pass0 (pa_cons (pv 4) (pa_cons (pv 1) (pa_cons (pv 5) pa_nil)))) (pg_tup rfl (pgs_cons (pg_name (i := 6) sc_ring_to.nd rfl (by first | exact Or.inl rfl | exact Or.inr rfl)) (pgs_cons (pg_name (i := 7) sc_ring_to.nd rfl (by first | exact Or.inl rfl | exact Or.inr rfl)) pgs_nil))))
    (pss_cons (ps_expr (pe_bm PySem.F.plainAttrs_dict PySem.F.slot_dict_pop PySem.F.type_dict_pop (mt_popT1 hu) (pv 5) (pa_cons (pv 7) pa_nil)))
    (pss_cons (ps_set (i := 8) sc_ring_to.nd rfl (by first | exact Or.inl rfl | exact Or.inr rfl) (pe_lst pa_nil))
    (pss_cons (ps_set (i := 9) sc_ring_to.nd rfl (by first | exact Or.inl rfl | exact Or.inr rfl) (pv 7))
    (pss_cons (ps_while (passes_of rfl) (pt_cmpR op_gt (pe_callB call_len_dT (by rfl) B.len PySem.boot_len (pa_cons (pv 5) pa_nil)) pe_int (nomark _)) (pss_cons (ps_asg (pe_cl c_row_to (hr.mono (by first | decide | omega)) (by rfl) pass0 (pa_cons (pv 4) (pa_cons (pv 9) (pa_cons (pv 5) pa_nil)))) (pg_tup rfl (pgs_cons (pg_name (i := 10) sc_ring_to.nd rfl (by first | exact Or.inl rfl | exact Or.inr rfl)) (pgs_cons (pg_name (i := 9) sc_ring_to.nd rfl (by first | exact Or.inl rfl | exact Or.inr rfl)) pgs_nil))))
    (pss_cons (ps_expr (pe_bm PySem.F.plainAttrs_list PySem.F.slot_list_extend PySem.F.type_list_extend mt_extend (pv 8) (pa_cons (pv 10) pa_nil)))
    (pss_one (ps_expr (pe_bm PySem.F.plainAttrs_dict PySem.F.slot_dict_pop PySem.F.type_dict_pop (mt_popT1 hu) (pv 5) (pa_cons (pv 9) pa_nil)))))))
    (pss_cons (ps_expr (pe_bm PySem.F.plainAttrs_list PySem.F.slot_list_extend PySem.F.type_list_extend mt_extend (pv 8) (pa_cons (pe_ix ix_tup (pe_cl c_row_to (hr.mono (by first | decide | omega)) (by rfl) pass0 (pa_cons (pv 4) (pa_cons (pv 9) (pa_cons (pe_disp1 hu (pv 7) pe_bl) pa_nil)))) pe_int (fun _ _ => rfl)) pa_nil)))
    (pss_one (ps_ret (pe_tup (pa_cons (pe_callTy call_tuple_of (by rfl) B.tuple (by decide +kernel) (pa_cons (pv 6) pa_nil)) (pa_cons (pe_callTy call_tuple_of (by rfl) B.tuple (by decide +kernel) (pa_cons (pv 8) pa_nil)) pa_nil))))))))))))), ?_⟩
  by_cases ho : OkG (ρ, c, lim)
  case neg => exact s_xasg (ex_callX (p := (ρ, c, lim)) (eA3 (ed_var rfl hρ) (ed_var rfl hc) (ed_var rfl hw)) pg ho fun H1 e => kf ho H1 e)
  refine s_asg (ed_callX (p := (ρ, c, lim)) (eA3 (ed_var rfl hρ) (ed_var rfl hc) (ed_var rfl hw)) pg ho) fun gv H1 e1 ⟨g, hgv, ks, hg, hk⟩ => ?_
  have hk : KeysG ρ c ks := hk
  have hG := hk.gr pg
  have hks9 : ks.length ≤ 90000 := hG.few
  have hsz : (en.length + 1) * ks.length ≤ 90000 := psz ks hk.1
  have hgv' : aG H1 gv (ρ, ks) := by show aU aSt H1 gv (graphB ρ ks); rw [← show g = graphB ρ ks from hg]; exact hgv
  have hck : c ∈ ks := (hk.1.2 c).mpr .refl
  have hek : ∀ x ∈ en, x ∈ ks := fun x hx => (hk.1.2 x).mpr (pre x hx)
  have hel := nodup_le pnd hek
  have hkpos : 0 < ks.length := List.length_pos_of_mem hck
  dsimp only
  refine s_asgD (s := aB) (gr := en.map fun x => (x, true)) (d_dict (EdL.ed (el_is (el_lc1 (t := fun _ => true) (f := fun x => (x, true)) (u := aP (aT aI) aB) (src_list (ed_var rfl (Mo.mo e1 hen))) (Nat.le_trans hel hks9) (fun _ => rfl) (fun x xv H2 e2 hx hxv => et_yes) (fun x xv H2 e2 hx hxv _ => ed_pair (ed_var rfl hxv) ed_b)) (by rw [List.filter_eq_self.mpr (fun _ _ => rfl)]))) (by rw [fst_true]; exact pnd)) fun lo lkv H2 hlo0 e2 hlo hlop => ?_
  obtain ⟨x0, hx0⟩ := List.exists_mem_of_ne_nil en pne
  have hg2 := Mo.mo (r := aG) e2 hgv'
  refine ed_callP (p := ((ρ, ks), c, en.map fun x => (x, true))) (eA3 (r := aG) (ed_var rfl hg2) (ed_var rfl (Mo.mo (e1.trans e2) hc)) (ed_var (r := aD aB) rfl ⟨lo, lkv, rfl, Rd.of hlo, hlop⟩)) ⟨hG, hck, x0, pre x0 hx0, by rw [fst_true]; exact hx0⟩ H2 (Same.refl _) _ fun pv H3 e3 ⟨⟨wy, fi⟩, hpv, hpath, hfl, hnl⟩ => ?_
  have hfe : fi ∈ en := by have := hfl; rw [fst_true] at this; exact this
  have hpath : Path ρ c wy fi := hpath
  refine tg2 hpv fun wv fv hwv hfv => ?_
  have hlo3 := e3 _ _ hlo
  have hlop3 := kvP_same e3 hlop
  dsimp only
  refine s_popD (s := aB) rfl hlo3 hlop3 (ed_var rfl hfv) (by rw [fst_true]; exact hfe) fun H4 e4 => ?_
  have hlo0H : H lo = none := e1.free hlo0
  have hlo4 := e4 _ _ hlo3
  have s4 : Same H1 (upd H4 lo (.dT (dropK lkv (kk fi)))) := Same.mut ((e2.trans e3).trans e4) hlo0
  have kv4 : KvP aB (upd H4 lo (.dT (dropK lkv (kk fi)))) (dropK lkv (kk fi)) ((en.filter fun x => decide (x ≠ fi)).map fun x => (x, true)) := by
    rw [← tru_keys]; exact kvP_drop fi (kvP_ts (TSm.upD hlo4) (kvP_same e4 hlop3))
  have fv4 : aT aI (upd H4 lo (.dT (dropK lkv (kk fi)))) fv fi := Im.upD hlo4 (Mo.mo e4 hfv)
  obtain ⟨wa, wws, rfl, hwa, hwp⟩ := hwv
  have hwlo : wa ≠ lo := fun z => by rw [z, hlo3] at hwa; cases hwa
  dsimp only
  refine s_asgL (r := aI) el_nil fun ri rws H5 hr0 e5 hri hrp => ?_
  cases hrp
  dsimp only
  refine s_asg (ed_var rfl (Mo.mo e5 fv4)) fun hv H6 e6 hhv => ?_
  have hrlo : ri ≠ lo := fun z => by rw [z, upd_same] at hr0; cases hr0
  have hri0 : H1 ri = none := s4.free hr0
  have hwa4 : (upd H4 lo (.dT (dropK lkv (kk fi)))) wa = some (.lst wws) := by rw [upd_ne hwlo]; exact e4 _ _ hwa
  have hrwa : ri ≠ wa := fun z => by rw [z, hwa4] at hr0; cases hr0
  have hwint := paired_int hwp
  have hnl' : wy.length ≤ ks.length := hnl
  refine s_while (fun m σ' H' => ∃ rest here hv wv2 kvs done nv s11, σ' = [some v, some u, some ev, some w, some gv, some (.ref lo), some (.ref wa), some fv, some (.ref ri), some hv, nv, s11] ∧ Same H1 H' ∧ H' lo = some (.dT kvs) ∧ KvP aB H' kvs (rest.map fun x => (x, true)) ∧ H' ri = some (.lst (done.map V.int)) ∧ H' wa = some (.lst (wy.map V.int)) ∧ aT aI H' hv here ∧ aT aI H' fv fi ∧ here ∈ en ∧ rest.Nodup ∧ (∀ x ∈ rest, x ∈ en) ∧ Path ρ fi done here ∧ (∀ x ∈ en, x ∈ rest ∨ ∃ a b, done = a ++ b ∧ Path ρ fi a x ∧ Path ρ x b here) ∧ done.length + rest.length * ks.length ≤ en.length * ks.length ∧ m = rest.length ∧ wv2 = ())
    (en.filter fun x => decide (x ≠ fi)).length ⟨_, fi, hv, (), _, [], none, none, rfl, s4.trans (e5.trans e6), (e5.trans e6) _ _ upd_same, kvP_same (e5.trans e6) kv4, e6 _ _ hri, by rw [← hwint]; exact (e5.trans e6) _ _ hwa4, hhv, Mo.mo (e5.trans e6) fv4, hfe, pnd.filter _, fun x hx => (List.mem_filter.mp hx).1, .nil, fun x hx => ?_, ?_, rfl, rfl⟩ ?_
  · by_cases e : x = fi
    · subst e; exact Or.inr ⟨[], [], rfl, .nil, .nil⟩
    · exact Or.inl (List.mem_filter.mpr ⟨hx, by simp [e]⟩)
  · have := filter_lt hfe
    show 0 + _ ≤ _
    rw [Nat.zero_add]
    exact Nat.mul_le_mul_right _ (by omega)
  rintro m σ' H7 ⟨rest, here, hv, _, kvs, done, nv, s11, rfl, sm, hlo7, hkv7, hri7, hwa7, hhv7, hfv7, hhe, hrn, hrs, hpd, hvis, hlen, rfl, _⟩
  have hkl := hkv7.length
  rw [List.length_map] at hkl
  have hres : rest.length * ks.length ≤ en.length * ks.length := by omega
  refine ⟨decide ((0 : Int) < (kvs.length : Int)), et_test (ed_gt (ed_lenD rfl hlo7) ed_i), fun hb H8 e8 => ?_, fun hb H8 e8 => ?_⟩
  · have hrpos : 0 < rest.length := by have := of_decide_eq_true hb; omega
    obtain ⟨y0, hy0⟩ := List.exists_mem_of_length_pos hrpos
    have hke : here ∈ ks := hek _ hhe
    refine ed_callP (p := ((ρ, ks), here, rest.map fun x => (x, true))) (eA3 (r := aG) (ed_var rfl (Mo.mo (r := aG) (sm.trans e8) hgv')) (ed_var rfl (Mo.mo e8 hhv7)) (ed_var (r := aD aB) rfl ⟨lo, kvs, rfl, Rd.of (e8 _ _ hlo7), kvP_same e8 hkv7⟩)) ⟨hG, hke, y0, pmu here hhe y0 (hrs y0 hy0), by rw [fst_true]; exact hy0⟩ H8 (Same.refl _) _ fun pv H9 e9 ⟨⟨ns, nx⟩, hpv, hpath2, hfl2, hnl2⟩ => ?_
    have hnr : nx ∈ rest := by have := hfl2; rw [fst_true] at this; exact this
    have hpath2 : Path ρ here ns nx := hpath2
    have hnl2 : ns.length ≤ ks.length := hnl2
    refine tg2 hpv fun nvv xv hnv hxv => ?_
    have e89 := e8.trans e9
    have hdl : done.length + ns.length ≤ 90000 := by
      have h1 : 1 * ks.length ≤ rest.length * ks.length := Nat.mul_le_mul_right _ hrpos
      rw [Nat.add_mul] at hsz
      omega
    dsimp only
    refine s_ext (r := aI) (ys := ns) (e89 _ _ hri7) (ed_ref rfl) (ed_var rfl hnv) (by rw [List.length_map]; omega) fun us H10 e10 hus => ?_
    have husi := paired_int hus
    have e8a := e89.trans e10
    have ri10 := e8a _ _ hri7
    have lo11 : (upd H10 ri (.lst (done.map V.int ++ us))) lo = some (.dT kvs) := by rw [upd_ne (Ne.symm hrlo)]; exact e8a _ _ hlo7
    dsimp only
    refine s_popD (s := aB) (g := rest.map fun x => (x, true)) rfl lo11 (kvP_ts (TSm.upL ri10) (kvP_same e8a hkv7)) (ed_var rfl (Im.upL ri10 (Mo.mo e10 hxv))) (by rw [fst_true]; exact hnr) fun H12 e12 => ?_
    have lo12 := e12 _ _ lo11
    have ts : TSm H10 (upd H12 lo (.dT (dropK kvs (kk nx)))) := (TSm.upL ri10).trans ((TSm.of e12).trans (TSm.upD lo12))
    have hfl3 := filter_lt hnr
    refine ⟨(rest.filter fun x => decide (x ≠ nx)).length, hfl3, rest.filter fun x => decide (x ≠ nx), nx, xv, (), dropK kvs (kk nx), done ++ ns, _, _, rfl, Same.mut ((Same.mut (sm.trans e8a) hri0).trans e12) hlo0, upd_same, ?_, ?_, ?_, Im.ts ts (Mo.mo e10 hxv), Im.ts ts (Mo.mo e8a hfv7), hrs nx hnr, hrn.filter _, fun x hx => hrs x (List.mem_filter.mp hx).1, hpd.app hpath2, fun x hx => ?_, ?_, rfl, rfl⟩
    · rw [← tru_keys]
      exact kvP_drop nx (kvP_ts ts (kvP_same e8a hkv7))
    · rw [upd_ne hrlo, List.map_append, ← husi]; exact e12 _ _ upd_same
    · rw [upd_ne hwlo]; exact e12 _ _ (by rw [upd_ne (Ne.symm hrwa)]; exact e8a _ _ hwa7)
    · by_cases e : x = nx
      · subst e
        exact Or.inr ⟨done ++ ns, [], by simp, hpd.app hpath2, .nil⟩
      · rcases hvis x hx with h | ⟨a, b, h1, h2, h3⟩
        · exact Or.inl (List.mem_filter.mpr ⟨h, by simp [e]⟩)
        · exact Or.inr ⟨a, b ++ ns, by rw [h1, List.append_assoc], h2, h3.app hpath2⟩
    · rw [List.length_append]
      have h1 : ((rest.filter fun x => decide (x ≠ nx)).length + 1) * ks.length ≤ rest.length * ks.length := Nat.mul_le_mul_right _ hfl3
      rw [Nat.add_mul, Nat.one_mul] at h1
      omega
  · have hr0' : rest = [] := by
      cases rest with
      | nil => rfl
      | cons a b => exact absurd (of_decide_eq_false hb) (by rw [hkl]; simp)
    subst hr0'
    have hke : here ∈ ks := hek _ hhe
    have hdl : done.length + ks.length ≤ 90000 := by
      rw [Nat.add_mul] at hsz; omega
    dsimp only
    refine s_extE (r := aI) (post := fun ns => ∃ y, PostRow ((ρ, ks), here, [(fi, true)]) (ns, y)) (e8 _ _ hri7) (ed_ref rfl) (ed_ix0E (ed_callP (p := ((ρ, ks), here, [(fi, true)])) (eA3 (r := aG) (ed_var rfl (Mo.mo (r := aG) (sm.trans e8) hgv')) (ed_var rfl (Mo.mo e8 hhv7)) (fun H1 e1 Q q => (EdD.ed (s := aB) (d_disp1 (ed_var rfl (Mo.mo e8 hfv7)) ed_b)) H1 e1 Q fun v H2 e2 hv => q v H2 e2 (aU.d hv))) ⟨hG, hke, fi, pmu here hhe fi hfe, List.mem_singleton.mpr rfl⟩)) (fun ys ⟨y, _, _, h3⟩ => by
      have h3 : ys.length ≤ ks.length := h3
      rw [List.length_map]; omega) fun us ys H9 e9 hus ⟨y, hp1, hp2, hp3⟩ => ?_
    have hy : y = fi := List.mem_singleton.mp hp2
    subst hy
    have hp1 : Path ρ here ys y := hp1
    have husi := paired_int hus
    have e89 := e8.trans e9
    have ri9 := e89 _ _ hri7
    have hwaE : (upd H9 ri (.lst (done.map V.int ++ us))) wa = some (.lst (wy.map V.int)) := by rw [upd_ne (Ne.symm hrwa)]; exact e89 _ _ hwa7
    have hriE : (upd H9 ri (.lst (done.map V.int ++ us))) ri = some (.lst ((done ++ ys).map V.int)) := by rw [upd_same, List.map_append, ← husi]
    dsimp only
    refine s_ret (r := aP (aT aI) (aT aI)) (x := (wy, done ++ ys)) (ed_pair (ed_tupL (ed_var rfl (aL_int hwaE))) (ed_tupL (ed_var rfl (aL_int hriE)))) fun rv H10 e10 hrv => ?_
    refine kt ho rv H10 _ (e1.trans ((Same.mut (sm.trans e89) hri0).trans e10)) hrv ⟨y, hfe, hpath, hpd.app hp1, fun x hx => ?_⟩
    rcases hvis x hx with h | ⟨a, b, h1, h2, h3⟩
    · cases h
    · exact ⟨a, b ++ ys, by rw [h1, List.append_assoc], h2, h3.app hp1⟩
end
end Pg

set_option Elab.async false
set_option linter.all false
set_option maxRecDepth 100000
set_option maxHeartbeats 4000000
namespace Pg
open PySem PySem.Spec PyProof.Rows L2 Pf
section
variable {P : Program} {w : World} {K : PySem.W.Frag} {mg : Str → Option Value} {base : Heap}
/-- a def that may raise, at f -/
structure HeldX (P : Program) (w : World) (K : PySem.W.Frag) (mg : Str → Option Value) (base : Heap) (k : Nat) (f : Addr) (sp : Sp) : Prop where
  ex : ∃ (fd : FuncData) (ps : List Str), FnOk P w K mg base (L2.CX P w) k f fd ps sp ∧ PySem.W.keepIn K (.ref f) = true ∧ Binds K fd ps []
theorem Cl.held {k : Nat} {x : Str} {ps : List Str} {sp : Sp} (c : Cl P w K mg base (L2.CX P w) k x ps [] sp) : ∃ f, mg x = some (.ref f) ∧ HeldX P w K mg base k f sp := by
  obtain ⟨f, fd, ds, h1, h2, h3, h4, h5⟩ := c.ex
  cases h5
  exact ⟨f, h2, fd, ps, h1, h3, h4⟩
def SpTM (P : Program) (w : World) (K : PySem.W.Frag) (mg : Str → Option Value) (base : Heap) (k : Nat) (C : Addr) : Sp := fun vs H Q _ => ∃ f sp u, vs = [.ref f, u] ∧ HeldX P w K mg base k f sp ∧
  ∀ (Q1 : VK) (E1 : XK), (∀ v H', Q (.bl false) H' → Q1 v H') → (∀ H', (∀ H'', Same H' H'' → Q (.bl true) H'') → E1 (.ref C) none H') → sp [u] H Q1 E1
theorem takes_no {X : Cx} : Takes X (fun _ _ _ _ => False) := fun _ _ ⟨_, _, _, _, _, _, _, _, _, _, _, _, _, _, _, _, h⟩ => h.elim
def noTS : TS := fun _ _ _ => False
theorem pss_no {X : Cx} {ss : List Stmt} : PSs X ss noTS := ⟨fun _ _ _ _ _ _ h => False.elim h⟩
def tSuite (K : PySem.W.Frag) (C a : Addr) (c1 c2 c3 c4 c5 c6 : Addr) : TS :=
  tSeq (tAsg (tCB (rIsET K C a) (tCons (tVar 3) (tCons (tTup (tCons (tC (.ref c1)) (tCons (tC (.ref c2)) (tCons (tC (.ref c3)) (tCons (tC (.ref c4)) (tCons (tC (.ref c5)) (tCons (tC (.ref c6)) tNil))))))) tNil))) (gName 4))
    (tAsg (tAndV (tCB (rIsE K C a) (tCons (tVar 3) (tCons (tC (.ref C)) tNil))) (tAndV (tCB (rIsE K C a) (tCons (tVar 3) (tCons (tC (.ty "ValueError")) tNil))) (tNotV (tVar 4)))) (gName 2))
theorem ok_too_many (B : Bt mg) {k : Nat} {C : Addr} (ER : Errs K mg C) (d : Here K mg s__law_too_many "_law_too_many" []) :
    Cl P w K mg base CX0 (k + 1) "_law_too_many" ["_law_ask_here", "_law_things"] [] (SpTM P w K mg base k C) := by
  refine d.cl sc__law_too_many (fun _ _ _ _ _ _ us hl => match us, hl with | [_, _], _ => rfl) (fun _ _ _ _ ⟨_, _, _, h, _⟩ => by rw [h]; rfl) (fun f cdv A outer s H vs Q E hr h => ?_)
  obtain ⟨fa, sp, u, rfl, ⟨fd, ps, hF, hkeep, hB⟩, hsp⟩ := h
  obtain ⟨Cp, gP, hexm⟩ := ER.p
  obtain ⟨c1, c2, c3, c4, c5, c6, g1, g2, g3, g4, g5, g6, hkit⟩ := ER.no
  have hu := hu_of hr
  refine ⟨_, pss_cons (ps_set (i := 2) sc__law_too_many.nd rfl (by first | exact Or.inl rfl | exact Or.inr rfl) pe_bl)
    (pss_cons (ps_try_as (i := 3) (Wout := fun _ _ _ _ => False) (ts := fun a cls d => if cls = .ref C ∧ d = none then tSuite K C a c1 c2 c3 c4 c5 c6 else noTS) rfl rfl sc__law_too_many.nd rfl rfl ⟨rfl, rfl, Or.inl gP⟩ takes_no
      (fun W pn xe tk ho => pss_one (ps_expr (pe_callLSD (i := 0) (f := fa) (dvs := []) (ds := []) hF hr rfl (by first | exact Or.inl rfl | exact Or.inr rfl) hkeep hB .nil (fun σ => passAt tk σ) (pa_cons (pv 1) pa_nil))))
      (fun a oe cls dd pn hz hf => ?_)) (pss_one (ps_ret (pv 2)))), ?_⟩
  · by_cases hcd : cls = .ref C ∧ dd = none
    · obtain ⟨rfl, rfl⟩ := hcd
      rw [if_pos ⟨rfl, rfl⟩]
      exact pss_cons (ps_set (i := 4) sc__law_too_many.nd rfl (by first | exact Or.inl rfl | exact Or.inr rfl) (pe_callB (call_isET ER.ex hz hf) rfl B.isinstance (by decide +kernel) (pa_cons (pv 3) (pa_cons (pe_tup (pa_cons (pe_glob rfl g1 rfl) (pa_cons (pe_glob rfl g2 rfl) (pa_cons (pe_glob rfl g3 rfl) (pa_cons (pe_glob rfl g4 rfl) (pa_cons (pe_glob rfl g5 rfl) (pa_cons (pe_glob rfl g6 rfl) pa_nil))))))) pa_nil))))
        (pss_one (ps_set (i := 2) sc__law_too_many.nd rfl (by first | exact Or.inl rfl | exact Or.inr rfl) (pe_and (pe_callB (call_isE ER.ex hz hf) rfl B.isinstance (by decide +kernel) (pa_cons (pv 3) (pa_cons (pe_glob rfl ER.ET.g rfl) pa_nil))) (pe_and (pe_callB (call_isE ER.ex hz hf) rfl B.isinstance (by decide +kernel) (pa_cons (pv 3) (pa_cons (pe_bltn (v := .ty "ValueError") rfl B.ValueError (by decide +kernel) rfl) pa_nil))) (pe_one (pe_not (pv 4)))))))
    · rw [if_neg hcd]; exact pss_no
  · refine ⟨rfl, u, rfl, ?_⟩
    show sp [u] H _ _
    refine hsp _ _ (fun v H' hq => ⟨_, rfl, hq⟩) fun H' hq => ⟨true, hexm, fun _ a ha => ?_, fun z => nomatch z⟩
    show (if (Value.ref C = .ref C ∧ (none : Option Addr) = none) then tSuite K C a c1 c2 c3 c4 c5 c6 else noTS) _ _ _
    rw [if_pos ⟨rfl, rfl⟩]
    refine ⟨.ref a, rfl, sz_of (by show 6 ≤ 100000; decide), fun p hp => ⟨p, [c1, c2, c3, c4, c5, c6], false, rfl, upd_same, hkit, ?_⟩⟩
    have hself : PySem.W.kitOne K (.ref C) (.ref C) = some true := by
      unfold PySem.W.kitOne
      rw [if_pos (beq_self_eq_true _)]
    refine ⟨.ref a, rfl, .ref C, .ref C, true, rfl, fun _ h => h, hself, true, rfl, ?_⟩
    refine iteT ⟨.ref a, rfl, .ty "ValueError", .type "ValueError", true, rfl, fun _ h => h, ER.ve, true, rfl, ?_⟩
    refine iteT ⟨.bl false, rfl, false, rfl, ?_⟩
    exact ⟨_, rfl, hq _ (Same.new hp)⟩
end
end Pg

set_option Elab.async false
set_option linter.all false
set_option maxRecDepth 100000
set_option maxHeartbeats 4000000
namespace Pg
open PySem PySem.Spec PyProof.Rows L2 Pf
def endOne (f : Nat) (n many : Int) : List Int := ((([1, 1, 1] : List Int).set (if f = 0 then 1 else 0) many).set (if f = 2 then 1 else 2) (n - 1 - many))
def endB (f : Nat) (n : Int) : List (List Int) := (rg 0 n.toNat).map (endOne f n)
section
variable {P : Program} {w : World} {K : PySem.W.Frag} {mg : Str → Option Value} {base : Heap}
abbrev SpEnd : Sp := SpP (A2 aR (aT aI)) (fun p => (∃ f : Nat, p.1.starts = [(f : Int)] ∧ f < 3) ∧ 1 ≤ p.2.sum ∧ p.2.sum ≤ 80000) (aL (aT aI)) (fun p xs => ∀ f : Nat, p.1.starts = [(f : Int)] → xs = sortC (endB f p.2.sum))
theorem ok_end (B : Bt mg) (d : Here K mg s__law_end "_law_end" []) : Cl P w K mg base CX0 1 "_law_end" ["_law_rule", "_law_crowd"] [] SpEnd := by
  refine d.cl sc__law_end (fun _ _ _ _ _ _ us hl => match us, hl with | [_, _], _ => rfl) (fun _ _ _ _ ⟨_, ⟨_, _, h, _⟩, _⟩ => by rw [h]; rfl) (fun f cdv A outer s H vs Q E hr h => ?_)
  obtain ⟨⟨ρ, c⟩, ⟨v, u, rfl, hρ, hc⟩, ⟨⟨fi, hfi, hf3⟩, hn1, hn2⟩, k⟩ := h
  have hfi : ρ.starts = [(fi : Int)] := hfi
  have hn1 : 1 ≤ c.sum := hn1
  have hn2 : c.sum ≤ 80000 := hn2
  have hρ : aR H v ρ := hρ
  have hc : aT aI H u c := hc
  have hu := hu_of hr
  refine ⟨_, (pss_cons (ps_set (i := 2) sc__law_end.nd rfl (by first | exact Or.inl rfl | exact Or.inr rfl) (pe_ix ix_tup (pe_ix ix_tup (pv 0) pe_int (fun _ _ => rfl)) pe_int (fun _ _ => rfl)))
    (pss_cons (ps_setLc (i := 3) (own := [("_law_room", 7)]) (g := (gName 7)) (tt := (tTest (tOp _ (tVar 7) (tVar 2)))) (te := (tVar 7)) rfl sc__law_end.nd rfl rfl (sw_true rfl rfl rfl (by decide +kernel)) (pi_range1 rfl B.range (pa_cons pe_int pa_nil)) (blkOk_by (own := [("_law_room", 7)]) (N := ["_law_rule", "_law_crowd", "_law_first", "_law_rooms", "_law_found", "_law_many", "_law_one", "_law_room"]) (sc := defScope s__law_end) (by decide +kernel)) (fun _ _ _ _ _ => by exact (pg_name (i := 7) sc__law_end.nd rfl (by first | exact Or.inl rfl | exact Or.inr rfl))) (fun _ _ _ _ _ => by exact (pts_one (pt_cmpR op_ne (pv 7) (pv 2) (nomark _)))) (fun _ _ _ _ _ => by exact (pv 7)))
    (pss_cons (ps_set (i := 4) sc__law_end.nd rfl (by first | exact Or.inl rfl | exact Or.inr rfl) (pe_lst pa_nil))
    (pss_cons (ps_for PassesOwn.never rfl (pi_range1 rfl B.range (pa_cons (pe_callB (cr_sumT rfl) (by rfl) B.sum (by decide +kernel) (pa_cons (pv 1) pa_nil)) pa_nil)) (pg_name (i := 5) sc__law_end.nd rfl (by first | exact Or.inl rfl | exact Or.inr rfl))
    (pss_cons (ps_set (i := 6) sc__law_end.nd rfl (by first | exact Or.inl rfl | exact Or.inr rfl) (pe_lst (pa_cons pe_int (pa_cons pe_int (pa_cons pe_int pa_nil)))))
    (pss_cons (ps_asg (pv 5) (pg_sub (pv 6) (pe_ix ix_list (pv 3) pe_int (fun _ _ => rfl)) set_list))
    (pss_cons (ps_asg (pe_op op_sub (pe_op op_sub (pe_callB (cr_sumT rfl) (by rfl) B.sum (by decide +kernel) (pa_cons (pv 1) pa_nil)) pe_int) (pv 5)) (pg_sub (pv 6) (pe_ix ix_list (pv 3) pe_int (fun _ _ => rfl)) set_list))
    (pss_one (ps_expr (pe_bm PySem.F.plainAttrs_list PySem.F.slot_list_append PySem.F.type_list_append mt_append (pv 4) (pa_cons (pe_callTy call_tuple_of (by rfl) B.tuple (by decide +kernel) (pa_cons (pv 6) pa_nil)) pa_nil))))))))
    (pss_one (ps_ret (pe_callB (cr_sortedG hr.units) (by rfl) B.sorted (by decide +kernel) (pa_cons (pv 4) pa_nil)))))))), ?_⟩
  refine s_asg (ed_ixT (r := aI) (x := (fi : Int)) (ed_R1 (ed_var rfl hρ)) ed_i (by rw [hfi]; rfl)) fun fv H1 e1 hfv => ?_
  cases hfv
  refine s_asg (EdL.ed (el_lc1 (t := fun x => !decide (x = (fi : Int))) (f := id) (u := aI) (src_rg1 (n := 3) ed_i (by decide) (by decide)) (by decide) (fun _ => rfl) (fun x xv H2 e2 hx hxv => et_test (ed_neI (ed_var rfl hxv) (ed_var (r := aI) rfl rfl))) (fun x xv H2 e2 hx hxv _ => ed_var rfl hxv))) fun rv H2 e2 hrv => ?_
  have hrooms : ((rg 0 (3 : Int).toNat).filter fun x => !decide (x = (fi : Int))).map id = [if fi = 0 then 1 else 0, if fi = 2 then 1 else 2] := by
    match fi, hf3 with
    | 0, _ => rfl
    | 1, _ => rfl
    | 2, _ => rfl
  rw [hrooms] at hrv
  refine s_asgL (r := aT aI) el_nil fun fo ws H3 hf0 e3 hfo hfp => ?_
  cases hfp
  have e03 := (e1.trans e2).trans e3
  dsimp only
  refine s_forR1 (n := c.sum) (ed_sumT (ed_var rfl (Mo.mo e03 hc))) (by omega) (by omega) (fun i σ' H' => ∃ s5 s6 fs, σ' = [some v, some u, some (.int (fi : Int)), some rv, some (.ref fo), s5, s6, none] ∧ Same H2 H' ∧ H' fo = some (.lst fs) ∧ Paired (aT aI H') fs ((rg 0 i).map (endOne fi c.sum))) (fun H4 e4 => ⟨none, none, [], rfl, e3.trans e4, e4 _ _ hfo, .nil⟩) ?_ ?_
  · rintro i σ' H4 hi ⟨s5, s6, fs, rfl, sm, hfo4, hfs⟩
    refine s_asgL (r := aI) (xs := [1, 1, 1]) (el_lst (eal_cons ed_i (eal_cons ed_i (eal_cons ed_i eal_nil))) (by show 3 ≤ 100000; decide)) fun l lws H5 hl0 e5 hl hlp => ?_
    have hl5 := paired_int hlp
    subst hl5
    have sm5 := sm.trans e5
    have hlfo : l ≠ fo := fun z => by rw [z, hfo4] at hl0; cases hl0
    have hlH : H2 l = none := sm.free hl0
    have rvL : ∀ {H'}, Same H2 H' → aL aI H' rv [if fi = 0 then 1 else 0, if fi = 2 then 1 else 2] := fun e => Mo.mo e hrv
    refine s_setL (n := if fi = 0 then 1 else 0) (j := if fi = 0 then 1 else 0) hl (ed_var (r := aI) rfl rfl) (ed_ref rfl) (ed_ixL (ed_var rfl (rvL sm5)) ed_i rfl) (by split <;> rfl) fun w1 H6 e6 hw1 => ?_
    cases hw1
    have hl6 := e6 _ _ hl
    have sm6 : Same H2 (upd H6 l (.lst (([1, 1, 1].map V.int).set (if fi = 0 then 1 else 0) (.int (i : Int))))) := Same.mut (sm5.trans e6) hlH
    dsimp only
    refine s_setL (n := if fi = 2 then 1 else 2) (j := if fi = 2 then 1 else 2) upd_same (ed_sub (ed_sub (ed_sumT (ed_var rfl (Mo.mo ((e1.trans e2).trans sm6) hc))) ed_i) (ed_var (r := aI) rfl rfl)) (ed_ref rfl) (ed_ixL (ed_var rfl (rvL sm6)) ed_i rfl) (by rw [List.length_set]; split <;> rfl) fun w2 H7 e7 hw2 => ?_
    cases hw2
    have hl7 := e7 _ _ upd_same
    have fo7 : (upd H7 l (.lst ((([1, 1, 1].map V.int).set (if fi = 0 then 1 else 0) (.int (i : Int))).set (if fi = 2 then 1 else 2) (.int (c.sum - 1 - (i : Int)))))) fo = some (.lst fs) := by
      rw [upd_ne (Ne.symm hlfo)]; exact e7 _ _ (by rw [upd_ne (Ne.symm hlfo)]; exact e6 _ _ (e5 _ _ hfo4))
    have hone : (upd H7 l (.lst ((([1, 1, 1].map V.int).set (if fi = 0 then 1 else 0) (.int (i : Int))).set (if fi = 2 then 1 else 2) (.int (c.sum - 1 - (i : Int)))))) l = some (.lst ((endOne fi c.sum (i : Int)).map V.int)) := by
      rw [upd_same]
      unfold endOne
      rw [← map_set_int, ← map_set_int]
    have hfl := hfs.length
    rw [List.length_map, rg_length] at hfl
    dsimp only
    refine s_app (r := aT aI) (x := endOne fi c.sum (i : Int)) fo7 (ed_ref rfl) (ed_tupL (ed_var rfl (aL_int hone))) (by omega) fun tv H8 e8 htv => ?_
    have fo8 := e8 _ _ fo7
    have ts : TSm H4 (upd H8 fo (.lst (fs ++ [tv]))) := (((((TSm.of (e5.trans e6)).trans (TSm.upL hl6)).trans (TSm.of e7)).trans (TSm.upL hl7)).trans (TSm.of e8)).trans (TSm.upL fo8)
    refine ⟨_, _, fs ++ [tv], rfl, Same.mut ((Same.mut (sm6.trans e7) hlH).trans e8) hf0, upd_same, ?_⟩
    have hrg : rg 0 (i + 1) = rg 0 i ++ [(i : Int)] := by
      have : ∀ (n : Nat) (lo : Int), rg lo (n + 1) = rg lo n ++ [lo + (n : Int)] := by
        intro n
        induction n with
        | zero => intro lo; simp [rg]
        | succ n ih => intro lo; rw [rg, ih (lo + 1)]; simp [rg]; omega
      rw [this]; simp
    rw [hrg, List.map_append]
    exact Paired.app (Paired.imp hfs fun _ _ q => Im.ts ts q) (.cons (Im.upL fo8 htv) .nil)
  · rintro σ' H4 ⟨s5, s6, fs, rfl, sm, hfo4, hfs⟩
    dsimp only
    refine s_ret (EdL.ed (el_sortedC (xs := endB fi c.sum) (ed_own rfl hfo4 hfs) fun z hz => ?_)) fun rv H5 e5 hrv => k rv H5 _ (((e1.trans e2).trans sm).trans e5) hrv fun g hg => ?_
    · obtain ⟨m, _, rfl⟩ := List.mem_map.mp hz
      intro e
      have := congrArg List.length e
      unfold endOne at this
      simp at this
    · have hg : ρ.starts = [(g : Int)] := hg
      rw [hfi] at hg
      have : (fi : Int) = (g : Int) := List.singleton_inj.mp hg
      have : fi = g := by omega
      subst this; rfl
structure PreA (ρ : Rule) (c : List Int) : Prop where
  fit : Fits ρ c
  fin : ∃ S, Comes ρ c S ∧ S.length ≤ 90000
  ne : c ≠ []
  fb : FitsB ρ [c.sum]
  beg : begF ρ [c.sum] = c
  m : ∀ S, Comes ρ c S → S.length * ρ.meets.length ≤ 90000
  st : ∃ f : Nat, ρ.starts = [(f : Int)] ∧ f < 3
  c0 : 1 ≤ c.sum ∧ c.sum ≤ 80000
  ring : ∀ f : Nat, ρ.starts = [(f : Int)] → ∀ lim, PreRi (ρ, c, sortC (endB f c.sum), lim)
def qL : Qn := .least [0] 1
theorem PreA.gt {ρ : Rule} {c : List Int} (h : PreA ρ c) (lim : Int) : PreGt 1 (ρ, qL, [c.sum], lim) := by
  refine ⟨h.fb, ?_, ⟨Nat.zero_lt_one, ⟨by decide, fun x hx => ⟨0, by simpa using hx, by show 0 < 1; decide⟩⟩⟩, ?_⟩
  · show PreG (ρ, begF ρ [c.sum], lim)
    rw [h.beg]; exact ⟨h.fit, h.fin⟩
  · show ∀ S, Comes ρ (begF ρ [c.sum]) S → _
    rw [h.beg]; exact h.m
def SpAskP (C : Addr) : Sp := fun vs H Q E => ∃ deed v1 v2 v3 ρ c, vs = [.int deed, v1, v2, v3] ∧ aR H v1 ρ ∧ aT aI H v2 c ∧ aQ H v3 qL ∧ PreA ρ c ∧ (OkG (ρ, c, 1000) → ∀ v H', Same H H' → Q v H') ∧ (¬ OkG (ρ, c, 1000) → ∀ H', Same H H' → E (.ref C) none H')
theorem s_num {σ : L2.St} {H : Hp} {i : Nat} {z z' : Int} {D : Ends} {tw tv : TS} (h : σ[i]? = some (some (.int z))) (k1 : ∀ H1, Same H H1 → tw D σ H1) (k2 : ∀ H1, Same H H1 → tv D σ H1) : tIfS (tTest (tOp rEq (tVar i) (tC (.int z')))) tw tv D σ H :=
  s_if (et_test (ed_eqI (ed_var (r := aI) h rfl) ed_i)) (fun _ H1 e => k1 H1 e) (fun _ H1 e => k2 H1 e)
/-- a return of a call that tells or leaves -/
theorem s_retX {α β : Type} {A : Hp → List V → α → Prop} {pre ok : α → Prop} {t : Rl β} [Ms t] {post : α → β → Prop} {C : Addr} {dvs : List V} {W : L2.St → XK} {tr : TA} {p : α} {σ : L2.St} {H : Hp} {D : Ends} (h : EdA tr σ H (fun H' vs => A H' (vs ++ dvs) p)) (hp : pre p) (k1 : ok p → ∀ v H1, Same H H1 → D.rt v H1) (k2 : ¬ ok p → ∀ H1, Same H H1 → W σ (.ref C) none H1) : tRet (tCallSD (SpX A pre ok t post C) dvs W tr) D σ H := by
  by_cases ho : ok p
  · exact s_ret (ed_callX h hp ho) fun v H1 e _ => k1 ho v H1 e
  · exact s_xret (ex_callX h hp ho (k2 ho))
end
end Pg

set_option Elab.async false
set_option linter.all false
set_option maxRecDepth 100000
set_option maxHeartbeats 4000000
namespace Pg
open PySem PySem.Spec PyProof.Rows L2 Pf
section
variable {P : Program} {w : World} {K : PySem.W.Frag} {mg : Str → Option Value} {base : Heap}
theorem end_ed (c_end : Cl P w K mg base CX0 1 "_law_end" ["_law_rule", "_law_crowd"] [] SpEnd) : True := trivial
abbrev ParA : List Str := ["rule", "crowd", "limit"]
/-- the calls of the asks, with a limit and without -/
structure Calls (P : Program) (w : World) (K : PySem.W.Frag) (mg : Str → Option Value) (base : Heap) (C : Addr) (dv : List V) : Prop where
  come : Cl P w K mg base (L2.CX P w) 5 "come" ["rule", "crowd", "limit"] dv (SpCome C)
  way : Cl P w K mg base (L2.CX P w) 5 "way_to" ["rule", "crowd", "goal", "limit"] dv (SpWay C)
  settled : Cl P w K mg base (L2.CX P w) 6 "settled" ["rule", "crowd", "limit"] dv (SpSet C)
  answers : Cl P w K mg base (L2.CX P w) 6 "answers" ["rule", "question", "counts", "limit"] dv (SpAns 1 C)
  err : Cl P w K mg base (L2.CX P w) 6 "err_at" ["rule", "question", "counts", "limit"] dv (SpErr 1 C)
  ends : Cl P w K mg base (L2.CX P w) 5 "ends_of" ["rule", "crowd", "limit"] dv (SpEnds C)
  ring : Cl P w K mg base (L2.CX P w) 5 "ring_to" ["rule", "crowd", "end", "limit"] dv (SpRing C)
theorem ring_ed {σ : L2.St} {H : Hp} {ta tb : TE} {E : XK} {ρ : Rule} {c : List Int} (A : PreA ρ c) (h1 : Ed ta σ H aR ρ) (h2 : Ed tb σ H (aT aI) c) {f : Nat} (hf : ρ.starts = [(f : Int)]) : Ed (tCall SpEnd [] E (tCons ta (tCons tb tNil))) σ H (aL (aT aI)) (sortC (endB f c.sum)) := fun H1 e Q q =>
  ed_callP (p := (ρ, c)) (eA2 h1 h2) ⟨A.st, A.c0.1, A.c0.2⟩ H1 e Q fun v H2 e2 ⟨xs, hx, hp⟩ => q v H2 e2 (by rw [← hp f hf]; exact hx)
theorem ok_ask_plain (B : Bt mg) {C : Addr} (cs : Calls P w K mg base C [.int 1000]) (c__law_end : Cl P w K mg base CX0 1 "_law_end" ["_law_rule", "_law_crowd"] [] SpEnd) (d : Here K mg s__law_ask_plain "_law_ask_plain" []) :
    Cl P w K mg base (L2.CX P w) 7 "_law_ask_plain" ["_law_deed", "_law_rule", "_law_crowd", "_law_question"] [] (SpAskP C) := by
  refine d.clX sc__law_ask_plain (fun _ _ _ _ _ _ us hl => match us, hl with | [_, _, _, _], _ => rfl) (fun _ _ _ _ ⟨_, _, _, _, _, _, h, _⟩ => by rw [h]; rfl) (fun f cdv A outer s H vs Q E hr h => ?_)
  obtain ⟨deed, v1, v2, v3, ρ, c, rfl, hρ, hc, hq, hA, kt, kf⟩ := h
  have hu := hu_of hr
  have c_come_d := cs.come
  have c_way_to_d := cs.way
  have c_settled_d := cs.settled
  have c_answers_d := cs.answers
  have c_err_at_d := cs.err
  have c_ends_of_d := cs.ends
  have c_ring_to_d := cs.ring
  refine ⟨_, (pss_cons (ps_if (pt_cmpR op_eq (pv 0) pe_int (nomark _)) (pss_one (ps_ret (pe_clS c_come_d (hr.mono (by first | decide | omega)) (by rfl) (fun σ => passAt (W := wE E) (takes_of rfl rfl rfl rfl) σ) (pa_cons (pv 1) (pa_cons (pv 2) pa_nil))))) pss_nil)
    (pss_cons (ps_if (pt_cmpR op_eq (pv 0) pe_int (nomark _)) (pss_one (ps_ret (pe_clS c_way_to_d (hr.mono (by first | decide | omega)) (by rfl) (fun σ => passAt (W := wE E) (takes_of rfl rfl rfl rfl) σ) (pa_cons (pv 1) (pa_cons (pv 2) (pa_cons (pv 2) pa_nil)))))) pss_nil)
    (pss_cons (ps_if (pt_cmpR op_eq (pv 0) pe_int (nomark _)) (pss_one (ps_ret (pe_clS c_settled_d (hr.mono (by first | decide | omega)) (by rfl) (fun σ => passAt (W := wE E) (takes_of rfl rfl rfl rfl) σ) (pa_cons (pv 1) (pa_cons (pv 2) pa_nil))))) pss_nil)
    (pss_cons (ps_if (pt_cmpR op_eq (pv 0) pe_int (nomark _)) (pss_one (ps_ret (pe_clS c_answers_d (hr.mono (by first | decide | omega)) (by rfl) (fun σ => passAt (W := wE E) (takes_of rfl rfl rfl rfl) σ) (pa_cons (pv 1) (pa_cons (pv 3) (pa_cons (pe_tup (pa_cons (pe_callB (cr_sumT rfl) (by rfl) B.sum (by decide +kernel) (pa_cons (pv 2) pa_nil)) pa_nil)) pa_nil)))))) pss_nil)
    (pss_cons (ps_if (pt_cmpR op_eq (pv 0) pe_int (nomark _)) (pss_one (ps_ret (pe_clS c_err_at_d (hr.mono (by first | decide | omega)) (by rfl) (fun σ => passAt (W := wE E) (takes_of rfl rfl rfl rfl) σ) (pa_cons (pv 1) (pa_cons (pv 3) (pa_cons (pe_tup (pa_cons (pe_callB (cr_sumT rfl) (by rfl) B.sum (by decide +kernel) (pa_cons (pv 2) pa_nil)) pa_nil)) pa_nil)))))) pss_nil)
    (pss_cons (ps_if (pt_cmpR op_eq (pv 0) pe_int (nomark _)) (pss_one (ps_ret (pe_clS c_ends_of_d (hr.mono (by first | decide | omega)) (by rfl) (fun σ => passAt (W := wE E) (takes_of rfl rfl rfl rfl) σ) (pa_cons (pv 1) (pa_cons (pv 2) pa_nil))))) pss_nil)
    (pss_one (ps_ret (pe_clS c_ring_to_d (hr.mono (by first | decide | omega)) (by rfl) (fun σ => passAt (W := wE E) (takes_of rfl rfl rfl rfl) σ) (pa_cons (pv 1) (pa_cons (pv 2) (pa_cons (pe_cl c__law_end (hr.mono (by first | decide | omega)) (by rfl) pass0 (pa_cons (pv 1) (pa_cons (pv 2) pa_nil))) pa_nil)))))))))))), ?_⟩
  have d1 : ∀ H', aI H' (.int 1000) 1000 := fun _ => rfl
  obtain ⟨fi, hfi, hf3⟩ := hA.st
  have okg : OkGt (ρ, qL, [c.sum], 1000) ↔ OkG (ρ, c, 1000) := by show OkG (ρ, begF ρ [c.sum], 1000) ↔ _; rw [hA.beg]
  refine s_num rfl (fun H1 e1 => ?_) (fun H1 e1 => ?_)
  · exact s_retX (p := (ρ, c, (1000 : Int))) (eA3d (t := aI) d1 (ed_var rfl (Mo.mo e1 hρ)) (ed_var rfl (Mo.mo e1 hc))) ⟨⟨hA.fit, hA.fin⟩, hA.ne⟩ (fun ho v H2 e2 => kt ho v H2 (e1.trans e2)) (fun ho H2 e2 => kf ho H2 (e1.trans e2))
  dsimp only
  refine s_num rfl (fun H2 e2 => ?_) (fun H2 e2 => ?_)
  · have e := e1.trans e2
    exact s_retX (p := (ρ, c, c, (1000 : Int))) (eA4d (q := aI) d1 (ed_var rfl (Mo.mo e hρ)) (ed_var rfl (Mo.mo e hc)) (ed_var rfl (Mo.mo e hc))) ⟨hA.fit, hA.fin⟩ (fun ho v H3 e3 => kt ho v H3 (e.trans e3)) (fun ho H3 e3 => kf ho H3 (e.trans e3))
  dsimp only
  refine s_num rfl (fun H3 e3 => ?_) (fun H3 e3 => ?_)
  · have e := (e1.trans e2).trans e3
    exact s_retX (p := (ρ, c, (1000 : Int))) (eA3d (t := aI) d1 (ed_var rfl (Mo.mo e hρ)) (ed_var rfl (Mo.mo e hc))) ⟨⟨hA.fit, hA.fin⟩, hA.ne⟩ (fun ho v H4 e4 => kt ho v H4 (e.trans e4)) (fun ho H4 e4 => kf ho H4 (e.trans e4))
  dsimp only
  refine s_num rfl (fun H4 e4 => ?_) (fun H4 e4 => ?_)
  · have e := ((e1.trans e2).trans e3).trans e4
    exact s_retX (p := (ρ, qL, [c.sum], (1000 : Int))) (eA4d (q := aI) d1 (ed_var rfl (Mo.mo e hρ)) (ed_var rfl (Mo.mo e hq)) (ed_tup (eal_cons (ed_sumT (ed_var rfl (Mo.mo e hc))) eal_nil) (by show 1 ≤ 100000; decide))) (hA.gt 1000) (fun ho v H5 e5 => kt (okg.mp ho) v H5 (e.trans e5)) (fun ho H5 e5 => kf (fun z => ho (okg.mpr z)) H5 (e.trans e5))
  dsimp only
  refine s_num rfl (fun H5 e5 => ?_) (fun H5 e5 => ?_)
  · have e := (((e1.trans e2).trans e3).trans e4).trans e5
    exact s_retX (p := (ρ, qL, [c.sum], (1000 : Int))) (eA4d (q := aI) d1 (ed_var rfl (Mo.mo e hρ)) (ed_var rfl (Mo.mo e hq)) (ed_tup (eal_cons (ed_sumT (ed_var rfl (Mo.mo e hc))) eal_nil) (by show 1 ≤ 100000; decide))) ⟨hA.gt 1000, by show begF ρ [c.sum] ≠ []; rw [hA.beg]; exact hA.ne⟩ (fun ho v H6 e6 => kt (okg.mp ho) v H6 (e.trans e6)) (fun ho H6 e6 => kf (fun z => ho (okg.mpr z)) H6 (e.trans e6))
  dsimp only
  refine s_num rfl (fun H6 e6 => ?_) (fun H6 e6 => ?_)
  · have e := ((((e1.trans e2).trans e3).trans e4).trans e5).trans e6
    exact s_retX (p := (ρ, c, (1000 : Int))) (eA3d (t := aI) d1 (ed_var rfl (Mo.mo e hρ)) (ed_var rfl (Mo.mo e hc))) ⟨⟨hA.fit, hA.fin⟩, hA.ne, hA.m⟩ (fun ho v H7 e7 => kt ho v H7 (e.trans e7)) (fun ho H7 e7 => kf ho H7 (e.trans e7))
  dsimp only
  have e := ((((e1.trans e2).trans e3).trans e4).trans e5).trans e6
  exact s_retX (p := (ρ, c, sortC (endB fi c.sum), (1000 : Int))) (eA4d (q := aI) d1 (ed_var rfl (Mo.mo e hρ)) (ed_var rfl (Mo.mo e hc)) (ring_ed hA (ed_var rfl (Mo.mo e hρ)) (ed_var rfl (Mo.mo e hc)) hfi)) (hA.ring fi hfi 1000) (fun ho v H7 e7 => kt ho v H7 (e.trans e7)) (fun ho H7 e7 => kf ho H7 (e.trans e7))
def effL (lim : Int) : Int := if lim = 0 then 1000 else lim
/-- things: (deed, rule, crowd, limit) -/
def aTh (deed : Int) (ρ : Rule) (c : List Int) (lim : Int) (H : Hp) (v : V) : Prop := ∃ a v1 v2, v = .ref a ∧ H a = some (.tup [.int deed, v1, v2, .int lim]) ∧ aR H v1 ρ ∧ aT aI H v2 c
theorem aTh.mo {deed : Int} {ρ : Rule} {c : List Int} {lim : Int} {H H' : Hp} {v : V} (e : Same H H') (h : aTh deed ρ c lim H v) : aTh deed ρ c lim H' v := by
  obtain ⟨a, v1, v2, h1, h2, h3, h4⟩ := h
  exact ⟨a, v1, v2, h1, e _ _ h2, Mo.mo e h3, Mo.mo e h4⟩
def SpAsk (C : Addr) : Sp := fun vs H Q E => ∃ v deed ρ c lim, vs = [v] ∧ aTh deed ρ c lim H v ∧ PreA ρ c ∧ (OkG (ρ, c, effL lim) → ∀ v H', Same H H' → Q v H') ∧ (¬ OkG (ρ, c, effL lim) → ∀ H', Same H H' → E (.ref C) none H')
theorem ed_qL {σ : L2.St} {H : Hp} : Ed (tTup (tCons (tC (.str "least")) (tCons (tTup (tCons (tC (.int 0)) tNil)) (tCons (tC (.int 1)) tNil)))) σ H aQ qL := fun H1 e Q q =>
  ⟨sz_of (by show 1 ≤ 100000; decide), fun t ht => ⟨sz_of (by show 3 ≤ 100000; decide), fun p hp => q _ _ ((Same.new ht).trans (Same.new hp)) ⟨p, .ref t, rfl, upd_same, t, _, rfl, Same.new hp _ _ upd_same, .cons rfl .nil⟩⟩⟩
theorem ok_ask (B : Bt mg) {C : Addr} (cs : Calls P w K mg base C []) (c__law_end : Cl P w K mg base CX0 1 "_law_end" ["_law_rule", "_law_crowd"] [] SpEnd) (c__law_ask_plain : Cl P w K mg base (L2.CX P w) 7 "_law_ask_plain" ["_law_deed", "_law_rule", "_law_crowd", "_law_question"] [] (SpAskP C)) (d : Here K mg s__law_ask "_law_ask" []) :
    Cl P w K mg base (L2.CX P w) 8 "_law_ask" ["_law_things"] [] (SpAsk C) := by
  refine d.clX sc__law_ask (fun _ _ _ _ _ _ us hl => match us, hl with | [_], _ => rfl) (fun _ _ _ _ ⟨_, _, _, _, _, h, _⟩ => by rw [h]; rfl) (fun f cdv A outer s H vs Q E hr h => ?_)
  obtain ⟨v, deed, ρ, c, lim, rfl, ⟨a, v1, v2, rfl, ha, hρ, hc⟩, hA, kt, kf⟩ := h
  have hu := hu_of hr
  have c_come := cs.come
  have c_way_to := cs.way
  have c_settled := cs.settled
  have c_answers := cs.answers
  have c_err_at := cs.err
  have c_ends_of := cs.ends
  have c_ring_to := cs.ring
  refine ⟨_, (pss_cons (ps_asg (pv 0) (pg_tup rfl (pgs_cons (pg_name (i := 1) sc__law_ask.nd rfl (by first | exact Or.inl rfl | exact Or.inr rfl)) (pgs_cons (pg_name (i := 2) sc__law_ask.nd rfl (by first | exact Or.inl rfl | exact Or.inr rfl)) (pgs_cons (pg_name (i := 3) sc__law_ask.nd rfl (by first | exact Or.inl rfl | exact Or.inr rfl)) (pgs_cons (pg_name (i := 4) sc__law_ask.nd rfl (by first | exact Or.inl rfl | exact Or.inr rfl)) pgs_nil))))))
    (pss_cons (ps_set (i := 5) sc__law_ask.nd rfl (by first | exact Or.inl rfl | exact Or.inr rfl) (pe_tup (pa_cons pe_str (pa_cons (pe_tup (pa_cons pe_int pa_nil)) (pa_cons pe_int pa_nil)))))
    (pss_cons (ps_set (i := 6) sc__law_ask.nd rfl (by first | exact Or.inl rfl | exact Or.inr rfl) (pe_tup (pa_cons (pe_callB (cr_sumT rfl) (by rfl) B.sum (by decide +kernel) (pa_cons (pv 3) pa_nil)) pa_nil)))
    (pss_cons (ps_if (pt_cmpR op_eq (pv 4) pe_int (nomark _)) (pss_one (ps_ret (pe_clS c__law_ask_plain (hr.mono (by first | decide | omega)) (by rfl) (fun σ => passAt (W := wE E) (takes_of rfl rfl rfl rfl) σ) (pa_cons (pv 1) (pa_cons (pv 2) (pa_cons (pv 3) (pa_cons (pv 5) pa_nil))))))) pss_nil)
    (pss_cons (ps_if (pt_cmpR op_eq (pv 1) pe_int (nomark _)) (pss_one (ps_ret (pe_clS c_come (hr.mono (by first | decide | omega)) (by rfl) (fun σ => passAt (W := wE E) (takes_of rfl rfl rfl rfl) σ) (pa_cons (pv 2) (pa_cons (pv 3) (pa_cons (pv 4) pa_nil)))))) pss_nil)
    (pss_cons (ps_if (pt_cmpR op_eq (pv 1) pe_int (nomark _)) (pss_one (ps_ret (pe_clS c_way_to (hr.mono (by first | decide | omega)) (by rfl) (fun σ => passAt (W := wE E) (takes_of rfl rfl rfl rfl) σ) (pa_cons (pv 2) (pa_cons (pv 3) (pa_cons (pv 3) (pa_cons (pv 4) pa_nil))))))) pss_nil)
    (pss_cons (ps_if (pt_cmpR op_eq (pv 1) pe_int (nomark _)) (pss_one (ps_ret (pe_clS c_settled (hr.mono (by first | decide | omega)) (by rfl) (fun σ => passAt (W := wE E) (takes_of rfl rfl rfl rfl) σ) (pa_cons (pv 2) (pa_cons (pv 3) (pa_cons (pv 4) pa_nil)))))) pss_nil)
    (pss_cons (ps_if (pt_cmpR op_eq (pv 1) pe_int (nomark _)) (pss_one (ps_ret (pe_clS c_answers (hr.mono (by first | decide | omega)) (by rfl) (fun σ => passAt (W := wE E) (takes_of rfl rfl rfl rfl) σ) (pa_cons (pv 2) (pa_cons (pv 5) (pa_cons (pv 6) (pa_cons (pv 4) pa_nil))))))) pss_nil)
    (pss_cons (ps_if (pt_cmpR op_eq (pv 1) pe_int (nomark _)) (pss_one (ps_ret (pe_clS c_err_at (hr.mono (by first | decide | omega)) (by rfl) (fun σ => passAt (W := wE E) (takes_of rfl rfl rfl rfl) σ) (pa_cons (pv 2) (pa_cons (pv 5) (pa_cons (pv 6) (pa_cons (pv 4) pa_nil))))))) pss_nil)
    (pss_cons (ps_if (pt_cmpR op_eq (pv 1) pe_int (nomark _)) (pss_one (ps_ret (pe_clS c_ends_of (hr.mono (by first | decide | omega)) (by rfl) (fun σ => passAt (W := wE E) (takes_of rfl rfl rfl rfl) σ) (pa_cons (pv 2) (pa_cons (pv 3) (pa_cons (pv 4) pa_nil)))))) pss_nil)
    (pss_one (ps_ret (pe_clS c_ring_to (hr.mono (by first | decide | omega)) (by rfl) (fun σ => passAt (W := wE E) (takes_of rfl rfl rfl rfl) σ) (pa_cons (pv 2) (pa_cons (pv 3) (pa_cons (pe_cl c__law_end (hr.mono (by first | decide | omega)) (by rfl) pass0 (pa_cons (pv 2) (pa_cons (pv 3) pa_nil))) (pa_cons (pv 4) pa_nil))))))))))))))))), ?_⟩
  obtain ⟨fi, hfi, hf3⟩ := hA.st
  have okg : ∀ l, OkGt (ρ, qL, [c.sum], l) ↔ OkG (ρ, c, l) := fun l => by show OkG (ρ, begF ρ [c.sum], l) ↔ _; rw [hA.beg]
  refine ⟨.ref a, rfl, a, _, rfl, SqT.of ha, rfl, .int deed, _, rfl, v1, _, rfl, v2, _, rfl, .int lim, _, rfl, rfl, ?_⟩
  dsimp only
  refine s_asg ed_qL fun qv H0 e0 hq => ?_
  dsimp only
  refine s_asg (ed_tup (eal_cons (ed_sumT (ed_var rfl (Mo.mo e0 hc))) eal_nil) (by show 1 ≤ 100000; decide)) fun cv H1 e1 hcv => ?_
  have e01 := e0.trans e1
  dsimp only
  refine s_if (b := decide (lim = 0)) (et_test (ed_eqI (ed_var (r := aI) rfl rfl) ed_i)) (fun hb H2 e2 => ?_) (fun hb H2 e2 => ?_)
  · have hl0 : lim = 0 := of_decide_eq_true hb
    have ee : effL lim = 1000 := by unfold effL; rw [if_pos hl0]
    rw [ee] at kt kf
    have e := e01.trans e2
    refine ⟨.int deed, rfl, v1, rfl, v2, rfl, qv, rfl, ?_⟩
    exact ⟨deed, v1, v2, qv, ρ, c, rfl, Mo.mo e hρ, Mo.mo e hc, Mo.mo (e1.trans e2) hq, hA, fun ho v H3 e3 => kt ho v H3 (e.trans e3), fun ho H3 e3 => kf ho H3 (e.trans e3)⟩
  · have hl0 : ¬ lim = 0 := of_decide_eq_false hb
    have ee : effL lim = lim := by unfold effL; rw [if_neg hl0]
    rw [ee] at kt kf
    have e2' := e01.trans e2
    dsimp only
    refine s_num rfl (fun H3 e3 => ?_) (fun H3 e3 => ?_)
    · have e := e2'.trans e3
      exact s_retX (p := (ρ, c, lim)) (eA3 (ed_var rfl (Mo.mo e hρ)) (ed_var rfl (Mo.mo e hc)) (ed_var (r := aI) rfl rfl)) ⟨⟨hA.fit, hA.fin⟩, hA.ne⟩ (fun ho v H4 e4 => kt ho v H4 (e.trans e4)) (fun ho H4 e4 => kf ho H4 (e.trans e4))
    dsimp only
    refine s_num rfl (fun H4 e4 => ?_) (fun H4 e4 => ?_)
    · have e := (e2'.trans e3).trans e4
      exact s_retX (p := (ρ, c, c, lim)) (eA4 (ed_var rfl (Mo.mo e hρ)) (ed_var rfl (Mo.mo e hc)) (ed_var rfl (Mo.mo e hc)) (ed_var (r := aI) rfl rfl)) ⟨hA.fit, hA.fin⟩ (fun ho v H5 e5 => kt ho v H5 (e.trans e5)) (fun ho H5 e5 => kf ho H5 (e.trans e5))
    dsimp only
    refine s_num rfl (fun H5 e5 => ?_) (fun H5 e5 => ?_)
    · have e := ((e2'.trans e3).trans e4).trans e5
      exact s_retX (p := (ρ, c, lim)) (eA3 (ed_var rfl (Mo.mo e hρ)) (ed_var rfl (Mo.mo e hc)) (ed_var (r := aI) rfl rfl)) ⟨⟨hA.fit, hA.fin⟩, hA.ne⟩ (fun ho v H6 e6 => kt ho v H6 (e.trans e6)) (fun ho H6 e6 => kf ho H6 (e.trans e6))
    dsimp only
    refine s_num rfl (fun H6 e6 => ?_) (fun H6 e6 => ?_)
    · have e := (((e2'.trans e3).trans e4).trans e5).trans e6
      exact s_retX (p := (ρ, qL, [c.sum], lim)) (eA4 (ed_var rfl (Mo.mo e hρ)) (ed_var rfl (Mo.mo ((((e1.trans e2).trans e3).trans e4).trans (e5.trans e6)) hq)) (ed_var rfl (Mo.mo ((((e2.trans e3).trans e4).trans e5).trans e6) hcv)) (ed_var (r := aI) rfl rfl)) (hA.gt lim) (fun ho v H7 e7 => kt ((okg lim).mp ho) v H7 (e.trans e7)) (fun ho H7 e7 => kf (fun z => ho ((okg lim).mpr z)) H7 (e.trans e7))
    dsimp only
    refine s_num rfl (fun H7 e7 => ?_) (fun H7 e7 => ?_)
    · have e := ((((e2'.trans e3).trans e4).trans e5).trans e6).trans e7
      exact s_retX (p := (ρ, qL, [c.sum], lim)) (eA4 (ed_var rfl (Mo.mo e hρ)) (ed_var rfl (Mo.mo ((((e1.trans e2).trans e3).trans e4).trans ((e5.trans e6).trans e7)) hq)) (ed_var rfl (Mo.mo (((((e2.trans e3).trans e4).trans e5).trans e6).trans e7) hcv)) (ed_var (r := aI) rfl rfl)) ⟨hA.gt lim, by show begF ρ [c.sum] ≠ []; rw [hA.beg]; exact hA.ne⟩ (fun ho v H8 e8 => kt ((okg lim).mp ho) v H8 (e.trans e8)) (fun ho H8 e8 => kf (fun z => ho ((okg lim).mpr z)) H8 (e.trans e8))
    dsimp only
    refine s_num rfl (fun H8 e8 => ?_) (fun H8 e8 => ?_)
    · have e := (((((e2'.trans e3).trans e4).trans e5).trans e6).trans e7).trans e8
      exact s_retX (p := (ρ, c, lim)) (eA3 (ed_var rfl (Mo.mo e hρ)) (ed_var rfl (Mo.mo e hc)) (ed_var (r := aI) rfl rfl)) ⟨⟨hA.fit, hA.fin⟩, hA.ne, hA.m⟩ (fun ho v H9 e9 => kt ho v H9 (e.trans e9)) (fun ho H9 e9 => kf ho H9 (e.trans e9))
    dsimp only
    have e := (((((e2'.trans e3).trans e4).trans e5).trans e6).trans e7).trans e8
    exact s_retX (p := (ρ, c, sortC (endB fi c.sum), lim)) (eA4 (ed_var rfl (Mo.mo e hρ)) (ed_var rfl (Mo.mo e hc)) (ring_ed hA (ed_var rfl (Mo.mo e hρ)) (ed_var rfl (Mo.mo e hc)) hfi) (ed_var (r := aI) rfl rfl)) (hA.ring fi hfi lim) (fun ho v H9 e9 => kt ho v H9 (e.trans e9)) (fun ho H9 e9 => kf ho H9 (e.trans e9))
end
end Pg

set_option Elab.async false
set_option linter.all false
set_option maxRecDepth 100000
set_option maxHeartbeats 4000000
namespace Pg
open PySem PySem.Spec PyProof.Rows L2 Pf
def qM : Qn := .more [0] []
section
variable {P : Program} {w : World} {K : PySem.W.Frag} {mg : Str → Option Value} {base : Heap}
def aTf (ρ : Rule) (most lim : Int) (H : Hp) (v : V) : Prop := ∃ a v1, v = .ref a ∧ H a = some (.tup [v1, .int most, .int lim]) ∧ aR H v1 ρ
theorem aTf.mo {ρ : Rule} {most lim : Int} {H H' : Hp} {v : V} (e : Same H H') (h : aTf ρ most lim H v) : aTf ρ most lim H' v := by
  obtain ⟨a, v1, h1, h2, h3⟩ := h
  exact ⟨a, v1, h1, e _ _ h2, Mo.mo e h3⟩
def SpAskF (C : Addr) : Sp := fun vs H Q E => ∃ v ρ most lim o, vs = [v] ∧ aTf ρ most lim H v ∧ PreEo 1 ρ qM most (effL lim) ∧ Runs (okE ρ qM (effL lim)) (goodE ρ qM) (begsB ρ 1 most.toNat) o ∧
  (o = .no → ∀ H', Same H H' → Q .non H') ∧ (o = .paper → ∀ v H', Same H H' → v ≠ .non → Q v H') ∧ (o = .over → ∀ H', Same H H' → E (.ref C) none H')
theorem ed_qM {σ : L2.St} {H : Hp} : Ed (tTup (tCons (tC (.str "more")) (tCons (tTup (tCons (tC (.int 0)) tNil)) (tCons (tTup tNil) tNil)))) σ H aQ qM := fun H1 e Q q =>
  ⟨sz_of (by show 1 ≤ 100000; decide), fun t ht => ⟨Nat.zero_le _, fun z hz => ⟨sz_of (by show 3 ≤ 100000; decide), fun p hp => q _ _ (((Same.new ht).trans (Same.new hz)).trans (Same.new hp)) ⟨p, .ref t, .ref z, rfl, upd_same, ⟨t, _, rfl, ((Same.new hz).trans (Same.new hp)) _ _ upd_same, .cons rfl .nil⟩, ⟨z, _, rfl, Same.new hp _ _ upd_same, .nil⟩⟩⟩⟩⟩
theorem ok_ask_first (B : Bt mg) {C : Addr} (c_err_of : Cl P w K mg base (L2.CX P w) 7 "err_of" ["rule", "question", "most", "limit"] [] (SpEo 1 C)) (c_err_of_d : Cl P w K mg base (L2.CX P w) 7 "err_of" ["rule", "question", "most", "limit"] [.int 1000] (SpEo 1 C)) (d : Here K mg s__law_ask_first "_law_ask_first" []) :
    Cl P w K mg base (L2.CX P w) 8 "_law_ask_first" ["_law_things"] [] (SpAskF C) := by
  refine d.clX sc__law_ask_first (fun _ _ _ _ _ _ us hl => match us, hl with | [_], _ => rfl) (fun _ _ _ _ ⟨_, _, _, _, _, h, _⟩ => by rw [h]; rfl) (fun f cdv A outer s H vs Q E hr h => ?_)
  obtain ⟨v, ρ, most, lim, o, rfl, ⟨a, v1, rfl, ha, hρ⟩, hp, hrun, k1, k2, k3⟩ := h
  have hu := hu_of hr
  refine ⟨_, (pss_cons (ps_asg (pv 0) (pg_tup rfl (pgs_cons (pg_name (i := 1) sc__law_ask_first.nd rfl (by first | exact Or.inl rfl | exact Or.inr rfl)) (pgs_cons (pg_name (i := 2) sc__law_ask_first.nd rfl (by first | exact Or.inl rfl | exact Or.inr rfl)) (pgs_cons (pg_name (i := 3) sc__law_ask_first.nd rfl (by first | exact Or.inl rfl | exact Or.inr rfl)) pgs_nil)))))
    (pss_cons (ps_set (i := 4) sc__law_ask_first.nd rfl (by first | exact Or.inl rfl | exact Or.inr rfl) (pe_tup (pa_cons pe_str (pa_cons (pe_tup (pa_cons pe_int pa_nil)) (pa_cons (pe_tup pa_nil) pa_nil)))))
    (pss_one (ps_ret (pe_ifExp (pt_cmpR op_eq (pv 3) pe_int (nomark _)) (pe_clS c_err_of_d (hr.mono (by first | decide | omega)) (by rfl) (fun σ => passAt (W := wE E) (takes_of rfl rfl rfl rfl) σ) (pa_cons (pv 1) (pa_cons (pv 4) (pa_cons (pv 2) pa_nil)))) (pe_clS c_err_of (hr.mono (by first | decide | omega)) (by rfl) (fun σ => passAt (W := wE E) (takes_of rfl rfl rfl rfl) σ) (pa_cons (pv 1) (pa_cons (pv 4) (pa_cons (pv 2) (pa_cons (pv 3) pa_nil)))))))))), ?_⟩
  refine ⟨.ref a, rfl, a, _, rfl, SqT.of ha, rfl, v1, _, rfl, .int most, _, rfl, .int lim, _, rfl, rfl, ?_⟩
  dsimp only
  refine s_asg ed_qM fun qv H0 e0 hq => ?_
  dsimp only
  refine (show EdT _ _ _ (decide (lim = 0)) from et_test (ed_eqI (ed_var (r := aI) (i := 3) (v := .int lim) rfl rfl) ed_i)) H0 (Same.refl _) _ fun H1 e1 => ?_
  have e := e0.trans e1
  by_cases hl0 : lim = 0
  · rw [decide_eq_true hl0]
    have ee : effL lim = 1000 := by unfold effL; rw [if_pos hl0]
    rw [ee] at hp hrun
    refine iteT ⟨v1, rfl, qv, rfl, .int most, rfl, ?_⟩
    exact ⟨ρ, qM, most, 1000, o, ⟨v1, qv, .int most, .int 1000, rfl, Mo.mo e hρ, Mo.mo e1 hq, rfl, rfl⟩, hp, hrun, fun h H' e' => k1 h H' (e.trans e'), fun h v H' e' hv => k2 h v H' (e.trans e') hv, fun h H' e' => k3 h H' (e.trans e')⟩
  · rw [decide_eq_false hl0]
    have ee : effL lim = lim := by unfold effL; rw [if_neg hl0]
    rw [ee] at hp hrun
    refine iteF ⟨v1, rfl, qv, rfl, .int most, rfl, .int lim, rfl, ?_⟩
    exact ⟨ρ, qM, most, lim, o, ⟨v1, qv, .int most, .int lim, rfl, Mo.mo e hρ, Mo.mo e1 hq, rfl, rfl⟩, hp, hrun, fun h H' e' => k1 h H' (e.trans e'), fun h v H' e' hv => k2 h v H' (e.trans e') hv, fun h H' e' => k3 h H' (e.trans e')⟩
def SpTold (C : Addr) : Sp := fun vs H Q _ => ∃ v deed ρ c lim, vs = [v] ∧ aTh deed ρ c lim H v ∧ PreA ρ c ∧ (OkG (ρ, c, effL lim) → ∀ H', Same H H' → Q (.bl true) H') ∧ (¬ OkG (ρ, c, effL lim) → ∀ H', Same H H' → Q (.bl false) H')
theorem ok_told (B : Bt mg) {C : Addr} (ER : Errs K mg C) (c__law_ask : Cl P w K mg base (L2.CX P w) 8 "_law_ask" ["_law_things"] [] (SpAsk C)) (d : Here K mg s__law_told "_law_told" []) :
    Cl P w K mg base CX0 9 "_law_told" ["_law_things"] [] (SpTold C) := by
  refine d.cl sc__law_told (fun _ _ _ _ _ _ us hl => match us, hl with | [_], _ => rfl) (fun _ _ _ _ ⟨_, _, _, _, _, h, _⟩ => by rw [h]; rfl) (fun f cdv A outer s H vs Q E hr h => ?_)
  obtain ⟨v, deed, ρ, c, lim, rfl, hth, hA, kt, kf⟩ := h
  obtain ⟨Cp, gP, hexm⟩ := ER.p
  refine ⟨_, pss_cons (ps_set (i := 1) sc__law_told.nd rfl (by first | exact Or.inl rfl | exact Or.inr rfl) pe_bl)
    (pss_cons (ps_try_only (Wout := fun _ _ _ _ => False) (ts := fun _ _ _ => tAsg (tC (.bl false)) (gName 1)) rfl rfl ⟨rfl, rfl, Or.inl gP⟩ takes_no
      (fun W pn xe tk ho => pss_one (ps_expr (pe_clS c__law_ask hr rfl (fun σ => passAt tk σ) (pa_cons (pv 0) pa_nil))))
      (fun a oe cls dd pn hz hf => pss_one (ps_set (i := 1) sc__law_told.nd rfl (by first | exact Or.inl rfl | exact Or.inr rfl) pe_bl))) (pss_one (ps_ret (pv 1)))), ?_⟩
  refine ⟨v, rfl, ?_⟩
  refine ⟨v, deed, ρ, c, lim, rfl, hth, hA, fun ho v' H' e => ⟨_, rfl, kt ho H' e⟩, fun ho H' e => ⟨true, hexm, fun _ a ha => ⟨_, rfl, kf ho H' e⟩, fun z => nomatch z⟩⟩
/-- the nine rooms -/
def wideB : Rule := ⟨9, [0], [[0, 0, 0, 1]] ++ (rg 1 8).map (fun k => [0, k, 0, k % 8 + 1]), List.replicate 9 true⟩
abbrev SpWide : Sp := fun vs H Q _ => vs = [] ∧ ∀ v H', Same H H' → aR H' v wideB → Q v H'
theorem ed_repT {α : Type} {r : Rl α} {σ : L2.St} {H : Hp} {ta tb : TE} {xs : List α} {n : Int} [Ms r] (ha : Ed ta σ H (aT r) xs) (hb : Ed tb σ H aI n) (h2 : 2 ≤ n) (h3 : n ≤ 1000) (hx : xs ≠ []) (hx2 : xs.length ≤ 1000) : Ed (tOp (rRepT K) ta tb) σ H (aT r) (List.replicate n.toNat xs).flatten :=
  ed_op ha hb fun H1 _ v u ⟨a, vs, g1, g2, g3⟩ hu Q q => ⟨a, n, vs, g1, hu, SqT.of g2, fun z => hx (by cases z; cases g3; rfl), h2, h3, by rw [g3.length]; exact hx2, fun p hp => q _ _ (Same.new hp) ⟨p, _, rfl, upd_same, by
    have g4 : Paired (r (upd H1 p (.tup (List.replicate n.toNat vs).flatten))) vs xs := Paired.imp g3 fun _ _ w => Mo.mo (Same.new hp) w
    have : ∀ k : Nat, Paired (r (upd H1 p (.tup (List.replicate n.toNat vs).flatten))) (List.replicate k vs).flatten (List.replicate k xs).flatten := fun k => by
      induction k with
      | zero => exact .nil
      | succ k ih => rw [List.replicate_succ, List.replicate_succ, List.flatten_cons, List.flatten_cons]; exact Paired.app g4 ih
    exact this n.toNat⟩⟩
theorem ed_rule {σ : L2.St} {H : Hp} {ta tb tc td : TE} {ρ : Rule} (h1 : Ed ta σ H aI ρ.rooms) (h2 : Ed tb σ H (aT aI) ρ.starts) (h3 : Ed tc σ H (aT (aT aI)) ρ.meets) (h4 : Ed td σ H (aT aB) ρ.says) : Ed (tTup (tCons ta (tCons tb (tCons tc (tCons td tNil))))) σ H aR ρ := fun H1 e Q q =>
  ea4 h1 h2 h3 h4 H1 e _ fun vs H2 e2 ⟨v1, v2, v3, v4, g0, g1, g2, g3, g4⟩ => ⟨by rw [g0]; exact sz_of (by show 4 ≤ 100000; decide), fun p hp => q _ _ (e2.trans (Same.new hp)) ⟨p, v1, v2, v3, v4, rfl, by rw [g0]; exact upd_same, Mo.mo (Same.new hp) g1, Mo.mo (Same.new hp) g2, Mo.mo (Same.new hp) g3, Mo.mo (Same.new hp) g4⟩⟩
theorem ok_wide (B : Bt mg) (d : Here K mg s__law_wide "_law_wide" []) : Cl P w K mg base CX0 1 "_law_wide" [] [] SpWide := by
  refine d.cl sc__law_wide (fun _ _ _ _ _ _ us hl => match us, hl with | [], _ => rfl) (fun _ _ _ _ ⟨h, _⟩ => by rw [h]; rfl) (fun f cdv A outer s H vs Q E hr h => ?_)
  obtain ⟨rfl, k⟩ := h
  have hu := hu_of hr
  refine ⟨_, (pss_cons (ps_set (i := 0) sc__law_wide.nd rfl (by first | exact Or.inl rfl | exact Or.inr rfl) (pe_op op_cat (pe_lst (pa_cons (pe_tup (pa_cons pe_int (pa_cons pe_int (pa_cons pe_int (pa_cons pe_int pa_nil))))) pa_nil)) (pe_lc (own := [("_law_k", 1)]) (g := (gName 1)) (tt := tYes) (te := (tTup (tCons (tC _) (tCons (tVar 1) (tCons (tC _) (tCons (tOp _ (tOp _ (tVar 1) (tC _)) (tC _)) tNil)))))) rfl sc__law_wide.nd (pi_range2 rfl B.range (pa_cons pe_int (pa_cons pe_int pa_nil))) (blkOk_by (own := [("_law_k", 1)]) (N := ["_law_meets", "_law_k"]) (sc := defScope s__law_wide) (by decide +kernel)) (fun _ _ _ _ _ => by exact (pg_name (i := 1) sc__law_wide.nd rfl (by first | exact Or.inl rfl | exact Or.inr rfl))) (fun _ _ _ _ _ => by exact pts_nil) (fun _ _ _ _ _ => by exact (pe_tup (pa_cons pe_int (pa_cons (pv 1) (pa_cons pe_int (pa_cons (pe_op op_add (pe_op op_mod (pv 1) pe_int) pe_int) pa_nil)))))))))
    (pss_one (ps_ret (pe_tup (pa_cons pe_int (pa_cons (pe_tup (pa_cons pe_int pa_nil)) (pa_cons (pe_callTy call_tuple_of (by rfl) B.tuple (by decide +kernel) (pa_cons (pv 0) pa_nil)) (pa_cons (pe_op op_repT (pe_tup (pa_cons pe_bl pa_nil)) pe_int) pa_nil)))))))), ?_⟩
  refine s_asg (r := aL (aT aI)) (x := wideB.meets) (ed_catL (xs := [[0, 0, 0, 1]]) (ys := (rg 1 8).map (fun k => [0, k, 0, k % 8 + 1])) (EdL.ed (el_lst (eal_cons (ed_tup (r := aI) (xs := [0, 0, 0, 1]) (eal_cons ed_i (eal_cons ed_i (eal_cons ed_i (eal_cons ed_i eal_nil)))) (by decide)) eal_nil) (by decide))) (EdL.ed (el_is (el_lc1 (t := fun _ => true) (f := fun k => [0, k, 0, k % 8 + 1]) (u := aT aI) (src_rg2 (n := 1) (m := 9) ed_i ed_i (by decide) (by decide) (by decide) (by decide)) (by decide) (fun _ => rfl) (fun x xv H2 e2 hx hxv => et_yes) (fun x xv H2 e2 hx hxv _ => ed_tup (r := aI) (xs := [0, x, 0, x % 8 + 1]) (eal_cons ed_i (eal_cons (ed_var rfl hxv) (eal_cons ed_i (eal_cons (ed_add (ed_mod (ed_var rfl hxv) ed_i (by decide)) ed_i) eal_nil)))) (by show 4 ≤ 100000; decide))) (by rw [List.filter_eq_self.mpr (fun _ _ => rfl)]; rfl))) (by decide)) fun mv H1 e1 hmv => ?_
  dsimp only
  exact s_ret (ed_rule (ρ := wideB) ed_i (ed_tup (r := aI) (xs := [0]) (eal_cons ed_i eal_nil) (by decide)) (ed_tupL (ed_var rfl hmv)) (ed_is (ed_repT (xs := [true]) (ed_tup (r := aB) (xs := [true]) (eal_cons ed_b eal_nil) (by decide)) ed_i (by decide) (by decide) (by decide) (by decide)) rfl)) fun rv H2 e2 hrv => k rv H2 (e1.trans e2) hrv
end
end Pg

set_option Elab.async false
set_option linter.all false
set_option maxRecDepth 100000
set_option maxHeartbeats 4000000
namespace Pg
open PySem PySem.Spec PyProof.Rows L2 Pf
section
variable {P : Program} {w : World} {K : PySem.W.Frag} {mg : Str → Option Value} {base : Heap}
def aK (K : PySem.W.Frag) : Rl (List Int) := fun H v ns => ∃ a, v = .ref a ∧ SqL K H a (ns.map V.int)
instance : Ms (aK K) := ⟨fun e ⟨a, h1, h2⟩ => ⟨a, h1, h2.elim (fun h => .inl (h.elim (fun h => .inl (e _ _ h)) fun ⟨o, h⟩ => .inr ⟨o, e _ _ h⟩)) fun h => .inr h⟩⟩
theorem ed_lenK {σ : L2.St} {H : Hp} {te : TE} {ns : List Int} (h : Ed te σ H (aK K) ns) : Ed (tCB (rLenS K) (tCons te tNil)) σ H aI (ns.length : Int) := fun H1 e Q q =>
  h H1 e _ fun v H2 e2 ⟨a, h1, h2⟩ => ⟨a, _, by rw [h1], Or.inl h2, q _ H2 e2 (by rw [List.length_map]; rfl)⟩
theorem ed_ixK {σ : L2.St} {H : Hp} {ta tb : TE} {ns : List Int} {i x : Int} (ha : Ed ta σ H (aK K) ns) (hb : Ed tb σ H aI i) (h : atI ns i = some x) : Ed (tOp (rIxL K) ta tb) σ H aI x :=
  ed_op ha hb fun H1 _ v u ⟨a, h1, h2⟩ hu Q q => by
    obtain ⟨w, h4, h5⟩ := atI_paired (int_paired H1 ns) h
    exact ⟨a, _, i, w, h1, hu, h2, h4, q w H1 (Same.refl _) h5⟩
theorem ed_pow {σ : L2.St} {H : Hp} {ta tb : TE} {i j : Int} (ha : Ed ta σ H aI i) (hb : Ed tb σ H aI j) (hc : CPow i j) : Ed (tOp (L2.rI CPow fun i j => V.int (i ^ j.toNat)) ta tb) σ H aI (i ^ j.toNat) := ed_IC ha hb hc fun _ => rfl
def SpFeed (K : PySem.W.Frag) : Sp := fun vs H Q _ => ∃ v ns, vs = [v, .int 0] ∧ aK K H v ns ∧ ns.length ≤ 1000 ∧ ∀ l a b H', H l = none → Same H H' → H' l = some (.lst [.int a, .int b, .int 0]) → Q (.ref l) H'
theorem ok_feed (B : Bt mg) (d : Here K mg s__law_feed "_law_feed" []) : Cl P w K mg base CX0 1 "_law_feed" ["_law_script", "_law_at"] [] (SpFeed K) := by
  refine d.cl sc__law_feed (fun _ _ _ _ _ _ us hl => match us, hl with | [_, _], _ => rfl) (fun _ _ _ _ ⟨_, _, h, _⟩ => by rw [h]; rfl) (fun f cdv A outer s H vs Q E hr h => ?_)
  obtain ⟨v, ns, rfl, hv, hl, k⟩ := h
  have hu := hu_of hr
  refine ⟨_, (pss_cons (ps_set (i := 2) sc__law_feed.nd rfl (by first | exact Or.inl rfl | exact Or.inr rfl) (pe_op op_mul pe_int (pv 1)))
    (pss_cons (ps_if (pt_cmpR op_gt (pe_callB call_len_seq (by rfl) B.len PySem.boot_len (pa_cons (pv 0) pa_nil)) pe_int (nomark _)) (pss_one (ps_set (i := 2) sc__law_feed.nd rfl (by first | exact Or.inl rfl | exact Or.inr rfl) (pe_op op_add (pe_ix ix_list (pv 0) (pe_op op_mod (pv 1) (pe_callB call_len_seq (by rfl) B.len PySem.boot_len (pa_cons (pv 0) pa_nil))) (fun _ _ => rfl)) (pe_op op_mul pe_int (pe_op op_fdiv (pv 1) (pe_callB call_len_seq (by rfl) B.len PySem.boot_len (pa_cons (pv 0) pa_nil))))))) pss_nil)
    (pss_one (ps_ret (pe_lst (pa_cons (pv 2) (pa_cons (pe_op op_mul (pe_callB (call_max2 rfl) (by rfl) B.max (by decide +kernel) (pa_cons pe_int (pa_cons (pv 2) pa_nil))) (pe_callTy call_int1 (by rfl) B.int (by decide +kernel) (pa_cons (pe_cmpR op_ge (pv 2) (pe_op op_pow pe_int pe_int) (nomark _)) pa_nil))) (pa_cons pe_int pa_nil)))))))), ?_⟩
  refine s_asg (ed_mul (i := 31) (j := 0) ed_i (ed_var (r := aI) rfl rfl) (Or.inl ⟨by decide, by decide⟩)) fun cv H1 e1 hcv => ?_
  cases hcv
  have fin : ∀ (cell : Int) (H2 : Hp), Same H H2 → tRet (tLst (tCons (tVar 2) (tCons (tOp (L2.rI CMul fun i j => V.int (i * j)) (tCB (fun xs H Q => ∃ i j, xs = [.int i, .int j] ∧ Q (.int (if j > i then j else i)) H) (tCons (tC (.int 0)) (tCons (tVar 2) tNil))) (tCB (fun xs H Q => (∃ i, xs = [.int i] ∧ Q (.int i) H) ∨ ∃ k, xs = [.bl k] ∧ Q (.int (if k then 1 else 0)) H) (tCons (tOp (rI0 fun i j => V.bl (decide (j ≤ i))) (tVar 2) (tOp (L2.rI CPow fun i j => V.int (i ^ j.toNat)) (tC (.int 10)) (tC (.int 18)))) tNil))) (tCons (tC (.int 0)) tNil)))) { nx := fun _ H' => Q .non H', rt := Q } [some v, some (.int 0), some (.int cell)] H2 := fun cell H2 e2 => by
    refine s_retL (r := aI) (xs := [cell, (if cell > 0 then cell else 0) * (if decide (10 ^ (18 : Int).toNat ≤ cell) then 1 else 0), 0]) (el_lst (eal_cons (ed_var rfl rfl) (eal_cons (ed_mul (ed_max2 ed_i (ed_var (r := aI) rfl rfl)) (ed_intB (ed_ge (ed_var (r := aI) rfl rfl) (ed_pow ed_i ed_i ⟨by decide, by decide, by decide⟩))) (Or.inr (by split <;> exact ⟨by decide, by decide⟩))) (eal_cons ed_i eal_nil))) (by show 3 ≤ 100000; decide)) fun l ws H3 hl0 e3 hl3 hp3 => ?_
    have := paired_int hp3
    subst this
    exact k l _ _ H3 (e2.free hl0) (e2.trans e3) hl3
  refine s_if (b := decide ((0 : Int) < (ns.length : Int))) (et_test (ed_gt (ed_lenK (ed_var rfl (Mo.mo e1 hv))) ed_i)) (fun hb H2 e2 => ?_) (fun hb H2 e2 => ?_)
  · have hn : 0 < ns.length := by have := of_decide_eq_true hb; omega
    have e := e1.trans e2
    have h0 : (0 : Int) % (ns.length : Int) = 0 := Int.zero_emod _
    have h1 : (0 : Int) / (ns.length : Int) = 0 := Int.zero_ediv _
    have hat : atI ns ((0 : Int) % (ns.length : Int)) = some (ns.getD 0 0) := by rw [h0]; exact at_ok (n := 0) hn
    refine s_asg (ed_add (ed_ixK (ed_var rfl (Mo.mo e hv)) (ed_mod (ed_var (r := aI) rfl rfl) (ed_lenK (ed_var rfl (Mo.mo e hv))) (by omega)) hat) (ed_mul ed_i (ed_fdiv (ed_var (r := aI) (i := 1) (v := .int 0) rfl rfl) (ed_lenK (ed_var rfl (Mo.mo e hv))) ⟨by omega, by omega⟩) (Or.inl ⟨by decide, by decide⟩))) fun cv H3 e3 hcv => ?_
    cases hcv
    exact fin _ H3 (e.trans e3)
  · exact fin _ H2 (e1.trans e2)
def SpDraw : Sp := fun vs H Q _ => ∃ fl m a b t, vs = [.ref fl, .int m] ∧ H fl = some (.lst [.int a, .int b, .int t]) ∧ 0 < m ∧ m < 1000 ∧ 0 ≤ t ∧ t ≤ 1000 ∧ ∀ r b' H', 0 ≤ r → r < m → SmX (fun x => x = fl) H H' → H' fl = some (.lst [.int a, .int b', .int (t + 1)]) → Q (.int r) H'
theorem ok_draw (B : Bt mg) (d : Here K mg s__law_draw "_law_draw" []) : Cl P w K mg base CX0 1 "_law_draw" ["_law_feed_here", "_law_many"] [] SpDraw := by
  refine d.cl sc__law_draw (fun _ _ _ _ _ _ us hl => match us, hl with | [_, _], _ => rfl) (fun _ _ _ _ ⟨_, _, _, _, _, h, _⟩ => by rw [h]; rfl) (fun f cdv A outer s H vs Q E hr h => ?_)
  obtain ⟨fl, m, a, b, t, rfl, hfl, hm0, hm1, ht0, ht1, k⟩ := h
  have hu := hu_of hr
  refine ⟨_, (pss_cons (ps_set (i := 2) sc__law_draw.nd rfl (by first | exact Or.inl rfl | exact Or.inr rfl) (pe_ix ix_list (pv 0) pe_int (fun _ _ => rfl)))
    (pss_cons (ps_asg (pe_op op_add (pv 2) pe_int) (pg_sub (pv 0) pe_int set_list))
    (pss_cons (ps_set (i := 3) sc__law_draw.nd rfl (by first | exact Or.inl rfl | exact Or.inr rfl) (pe_ix ix_list (pv 0) pe_int (fun _ _ => rfl)))
    (pss_cons (ps_if (pt_cmpR op_gt (pv 3) pe_int (nomark _)) (pss_cons (ps_asg (pe_op op_fdiv (pv 3) (pv 1)) (pg_sub (pv 0) pe_int set_list))
    (pss_one (ps_ret (pe_op op_mod (pv 3) (pv 1))))) pss_nil)
    (pss_cons (ps_set (i := 4) sc__law_draw.nd rfl (by first | exact Or.inl rfl | exact Or.inr rfl) (pe_op op_add (pe_op op_add (pe_op op_mod (pe_ix ix_list (pv 0) pe_int (fun _ _ => rfl)) pe_int) (pe_op op_mul (pe_op op_mul pe_int (pv 2)) (pv 2))) pe_int))
    (pss_cons (ps_set (i := 5) sc__law_draw.nd rfl (by first | exact Or.inl rfl | exact Or.inr rfl) (pe_op op_mod (pe_op op_mul (pv 4) (pe_op op_add pe_int (pe_op op_mul pe_int (pv 2)))) pe_int))
    (pss_one (ps_ret (pe_op op_mod (pe_op op_fdiv (pe_op op_mod (pe_op op_add (pe_op op_mul (pe_op op_fdiv (pv 5) pe_int) pe_int) (pv 2)) pe_int) pe_int) (pv 1)))))))))), ?_⟩
  have l3 : ∀ {x y z : Int} {H' : Hp}, H' fl = some (.lst [.int x, .int y, .int z]) → aL aI H' (.ref fl) [x, y, z] := fun h => ⟨fl, _, rfl, h, .cons rfl (.cons rfl (.cons rfl .nil))⟩
  refine s_asg (ed_ixL (ed_var rfl (l3 hfl)) ed_i rfl) fun tv H1 e1 htv => ?_
  cases htv
  have h1 := e1 _ _ hfl
  refine s_setL (n := 2) h1 (ed_add (ed_var (r := aI) rfl rfl) ed_i) (ed_ref rfl) ed_i rfl fun tv H2 e2 htv => ?_
  cases htv
  have h2 := e2 _ _ h1
  have sx2 : SmX (fun x => x = fl) H (upd H2 fl (.lst [.int a, .int b, .int (t + 1)])) := (SmX.of (e1.trans e2)).trans (SmX.up rfl)
  have h3 : (upd H2 fl (.lst [.int a, .int b, .int (t + 1)])) fl = some (.lst [.int a, .int b, .int (t + 1)]) := upd_same
  show tSeq _ _ _ _ (upd H2 fl (.lst [.int a, .int b, .int (t + 1)]))
  generalize upd H2 fl (.lst [.int a, .int b, .int (t + 1)]) = H3 at sx2 h3
  refine s_asg (ed_ixL (ed_var rfl (l3 h3)) ed_i rfl) fun lv H4 e4 hlv => ?_
  cases hlv
  have h4 := e4 _ _ h3
  have sx4 := sx2.trans (SmX.of e4)
  dsimp only
  refine s_if (b := decide ((0 : Int) < b)) (et_test (ed_gt (ed_var (r := aI) rfl rfl) ed_i)) (fun hb H5 e5 => ?_) (fun hb H5 e5 => ?_)
  · have h5 := e5 _ _ h4
    have sx5 := sx4.trans (SmX.of e5)
    refine s_setL (n := 1) h5 (ed_fdiv (ed_var (r := aI) (i := 3) (v := .int b) rfl rfl) (ed_var (r := aI) (i := 1) (v := .int m) rfl rfl) ⟨hm0, by omega⟩) (ed_ref rfl) ed_i rfl fun bv H6 e6 hbv => ?_
    cases hbv
    have sx6 := (sx5.trans (SmX.of e6)).trans (SmX.up (H := H6) (p := fl) (o := .lst [.int a, .int (b / m), .int (t + 1)]) rfl)
    refine s_ret (x := b % m) (ed_mod (ed_var (r := aI) (i := 3) (v := .int b) rfl rfl) (ed_var (r := aI) (i := 1) (v := .int m) rfl rfl) hm0) fun rv H7 e7 hrv => ?_
    cases hrv
    exact k _ (b / m) H7 (Int.emod_nonneg _ (by omega)) (Int.emod_lt_of_pos _ hm0) (sx6.trans (SmX.of e7)) (e7 _ _ upd_same)
  · have h5 := e5 _ _ h4
    have sx5 := sx4.trans (SmX.of e5)
    have hx1 : 0 ≤ a % 2147483647 := Int.emod_nonneg _ (by decide)
    have hx2 : a % 2147483647 < 2147483647 := Int.emod_lt_of_pos _ (by decide)
    have ht2 : 31 * t * t ≤ 31 * 1000 * 1000 := by
      have : t * t ≤ 1000 * 1000 := Int.mul_le_mul ht1 ht1 ht0 (by decide)
      have e : 31 * t * t = 31 * (t * t) := Int.mul_assoc _ _ _
      omega
    have ht3 : 0 ≤ 31 * t * t := Int.mul_nonneg (Int.mul_nonneg (by decide) ht0) ht0
    dsimp only
    refine s_asg (x := a % 2147483647 + 31 * t * t + 1) (ed_add (ed_add (ed_mod (ed_ixL (ed_var (i := 0) rfl (l3 h5)) ed_i rfl) ed_i (by decide)) (ed_mul (ed_mul ed_i (ed_var (r := aI) (i := 2) (v := .int t) rfl rfl) (Or.inl ⟨by decide, by decide⟩)) (ed_var (r := aI) (i := 2) (v := .int t) rfl rfl) (Or.inl ⟨by omega, by omega⟩))) ed_i) fun hv H6 e6 hhv => ?_
    cases hhv
    dsimp only
    refine s_asg (x := (a % 2147483647 + 31 * t * t + 1) * (48271 + 40 * t) % 2147483629) (ed_mod (ed_mul (ed_var (r := aI) (i := 4) rfl rfl) (ed_add ed_i (ed_mul ed_i (ed_var (r := aI) (i := 2) (v := .int t) rfl rfl) (Or.inl ⟨by decide, by decide⟩))) (Or.inl ⟨by omega, by omega⟩)) ed_i (by decide)) fun mv H7 e7 hmv => ?_
    cases hmv
    dsimp only
    refine s_ret (ed_mod (ed_fdiv (ed_mod (ed_add (ed_mul (ed_fdiv (ed_var (r := aI) (i := 5) rfl rfl) ed_i ⟨by decide, by decide⟩) ed_i (Or.inr ⟨by decide, by decide⟩)) (ed_var (r := aI) (i := 2) (v := .int t) rfl rfl)) ed_i (by decide)) ed_i ⟨by decide, by decide⟩) (ed_var (r := aI) (i := 1) (v := .int m) rfl rfl) hm0) fun rv H8 e8 hrv => ?_
    cases hrv
    exact k _ b H8 (Int.emod_nonneg _ (by omega)) (Int.emod_lt_of_pos _ hm0) (sx5.trans (SmX.of ((e6.trans e7).trans e8))) (((e6.trans e7).trans e8) _ _ h5)
end
end Pg

set_option Elab.async false
set_option linter.all false
set_option maxRecDepth 100000
set_option maxHeartbeats 4000000
namespace Pg
open PySem PySem.Spec PyProof.Rows L2 Pf
theorem look_of {β : Type} : ∀ {g : List (List Int × β)} {c : List Int} {x : β}, (g.map (·.1)).Nodup → (c, x) ∈ g → look g c = some x
  | p :: g, c, x, hn, h => by
    rw [look_cons]
    rcases List.mem_cons.mp h with e | h
    · subst e; rw [if_pos rfl]
    · have := List.nodup_cons.mp hn
      rw [if_neg (fun e => this.1 (List.mem_map.mpr ⟨_, h, e.symm⟩))]
      exact look_of this.2 h
theorem perm_pair {a b : Int} {l : List Int} (h : l.Perm [a, b]) : l = [a, b] ∨ l = [b, a] := by
  have hl := h.length_eq
  match l, hl with
  | [x, y], _ =>
    have hx : x ∈ [a, b] := h.mem_iff.mp (by simp)
    by_cases e : x = a
    · subst e
      have h2 := (List.perm_cons x).mp h
      have : y ∈ [b] := h2.mem_iff.mp (by simp)
      rw [List.mem_singleton.mp this]; exact Or.inl rfl
    · have e2 : x = b := by
        simp only [List.mem_cons, List.not_mem_nil, or_false] at hx
        exact hx.resolve_left e
      subst e2
      have h2 := (List.perm_cons x).mp (h.trans (List.Perm.swap x a []))
      have : y ∈ [a] := h2.mem_iff.mp (by simp)
      rw [List.mem_singleton.mp this]; exact Or.inr rfl
section
variable {P : Program} {w : World} {K : PySem.W.Frag} {mg : Str → Option Value} {base : Heap}
theorem putK_last {kvs : List (List L2.Key × V)} {k : List L2.Key} {v v' : V} (h : valV kvs k = none) : putK (kvs ++ [(k, v)]) k v' = kvs ++ [(k, v')] := by
  have hne : ∀ kv ∈ kvs, ¬ kv.1 = k := fun kv hm e => by
    have h1 : (kvs.any fun kv => decide (kv.1 = k)) = true := List.any_eq_true.mpr ⟨kv, hm, decide_eq_true e⟩
    rw [valV_any, h] at h1; cases h1
  unfold putK
  rw [if_pos (by simp), List.map_append]
  congr 1
  · rw [List.map_congr_left (g := id) (fun kv hm => by rw [if_neg (hne kv hm)]; rfl), List.map_id]
  · simp
theorem ed_sort2 {σ : L2.St} {H : Hp} {te : TE} {a b : Int} (h : Ed te σ H (aL aI) [a, b]) : Ed (tCB (rSorted K) (tCons te tNil)) σ H (aE (aL aI) fun ns => ns.Perm [a, b]) () := fun H1 e Q q =>
  h H1 e _ fun v H2 e2 ⟨l, vs, h1, h2, h3⟩ => by
    have e3 := paired_int h3
    subst e3
    exact ⟨l, [a, b], by rw [h1], SqL.of h2, by show 2 < 64; decide, fun ns' p hp _ hn => q _ _ (e2.trans (Same.new hn)) ⟨ns', ⟨p, _, rfl, upd_same, int_paired _ _⟩, hp⟩⟩
def Ent (f r to : Int) (p : List Int × List Int) : Prop := p = ([f, r], [f, to]) ∨ (r ≠ f ∧ p = ([r, f], [to, f]))
structure RoundP (f s t : Int) (ρ : Rule) : Prop where
  rooms : ρ.rooms = 3
  starts : ρ.starts = [f]
  says : ρ.says = (rg 0 3).map fun r => decide (r = f)
  len : ρ.meets.length = 3
  ms : ∃ m2 m3, (∀ m, m ∈ ρ.meets ↔ m = [f, f, f, s] ∨ m = m2 ∨ m = m3) ∧ (m2 = [f, s, f, t] ∨ m2 = [s, f, t, f]) ∧ (m3 = [f, t, f, s] ∨ m3 = [t, f, s, f])
abbrev Tri (f s t : Int) : List (List Int) := [[f, f, s], [f, s, t], [f, t, s]]
abbrev SpRound : Sp := SpP (A2 (aL aI) aI) (fun p => ∃ f s t, p.1 = [f, s, t] ∧ p.2 = 1 ∧ f ≠ s ∧ f ≠ t ∧ s ≠ t) aR (fun p ρ => ∀ f s t, p.1 = [f, s, t] → RoundP f s t ρ)
theorem tg3i {σ : L2.St} {H : Hp} {i j k : Nat} {v : V} {a b c : Int} {Q : L2.St → Hp → Prop} (h : aT aI H v [a, b, c]) (q : Q (((σ.set i (some (.int a))).set j (some (.int b))).set k (some (.int c))) H) : gTup K 3 (gCons (gName i) (gCons (gName j) (gCons (gName k) gNil))) v σ H Q := by
  obtain ⟨l, h1, h2⟩ := aTI_iff.mp h
  exact ⟨l, _, h1, SqT.of h2, rfl, .int a, _, rfl, .int b, _, rfl, .int c, _, rfl, rfl, q⟩
theorem ok_round (B : Bt mg) (d : Here K mg s__law_round "_law_round" []) : Cl P w K mg base CX0 1 "_law_round" ["_law_order", "_law_sorts"] [] SpRound := by
  refine d.cl sc__law_round (fun _ _ _ _ _ _ us hl => match us, hl with | [_, _], _ => rfl) (fun _ _ _ _ ⟨_, ⟨_, _, h, _⟩, _⟩ => by rw [h]; rfl) (fun f cdv A outer s H vs Q E hr h => ?_)
  obtain ⟨⟨od, so⟩, ⟨v, u, rfl, hod, hso⟩, ⟨f, s, t, hode, hsoe, hfs, hft, hst⟩, k⟩ := h
  have hode : od = [f, s, t] := hode
  have hsoe : so = 1 := hsoe
  subst hode; subst hsoe
  cases hso
  have hu := hu_of hr
  refine ⟨_, (pss_cons (ps_asg (pv 0) (pg_unl rfl (pgs_cons (pg_name (i := 2) sc__law_round.nd rfl (by first | exact Or.inl rfl | exact Or.inr rfl)) (pgs_cons (pg_name (i := 3) sc__law_round.nd rfl (by first | exact Or.inl rfl | exact Or.inr rfl)) (pgs_cons (pg_name (i := 4) sc__law_round.nd rfl (by first | exact Or.inl rfl | exact Or.inr rfl)) pgs_nil)))))
    (pss_cons (ps_set (i := 5) sc__law_round.nd rfl (by first | exact Or.inl rfl | exact Or.inr rfl) pe_dnewT)
    (pss_cons (ps_for PassesOwn.never rfl (pi_list (pe_lst (pa_cons (pe_tup (pa_cons (pv 2) (pa_cons (pv 2) (pa_cons (pv 3) pa_nil)))) (pa_cons (pe_tup (pa_cons (pv 2) (pa_cons (pv 3) (pa_cons (pv 4) pa_nil)))) (pa_cons (pe_tup (pa_cons (pv 2) (pa_cons (pv 4) (pa_cons (pv 3) pa_nil)))) pa_nil))))) (pg_tup rfl (pgs_cons (pg_name (i := 6) sc__law_round.nd rfl (by first | exact Or.inl rfl | exact Or.inr rfl)) (pgs_cons (pg_name (i := 7) sc__law_round.nd rfl (by first | exact Or.inl rfl | exact Or.inr rfl)) (pgs_cons (pg_name (i := 8) sc__law_round.nd rfl (by first | exact Or.inl rfl | exact Or.inr rfl)) pgs_nil))))
    (pss_cons (ps_set (i := 9) sc__law_round.nd rfl (by first | exact Or.inl rfl | exact Or.inr rfl) (pe_callTy call_tuple_of (by rfl) B.tuple (by decide +kernel) (pa_cons (pe_callB cr_sorted (by rfl) B.sorted (by decide +kernel) (pa_cons (pe_lst (pa_cons (pv 6) (pa_cons (pv 7) pa_nil))) pa_nil)) pa_nil)))
    (pss_cons (ps_dput hu (pv 5) (pv 9) (pe_tup (pa_cons (pv 2) (pa_cons (pv 8) pa_nil))) rfl)
    (pss_one (ps_if (pt_cmpR op_ne (pe_ix ix_tup (pv 9) pe_int (fun _ _ => rfl)) (pv 2) (nomark _)) (pss_one (ps_dput hu (pv 5) (pv 9) (pe_tup (pa_cons (pv 8) (pa_cons (pv 2) pa_nil))) rfl)) pss_nil)))))
    (pss_cons (ps_set (i := 10) sc__law_round.nd rfl (by first | exact Or.inl rfl | exact Or.inr rfl) (pe_callTy call_tuple_of (by rfl) B.tuple (by decide +kernel) (pa_cons (pe_lc (own := [("_law_room", 11)]) (g := (gName 11)) (tt := tYes) (te := (tOp _ (tVar 11) (tVar 2))) rfl sc__law_round.nd (pi_range1 rfl B.range (pa_cons pe_int pa_nil)) (blkOk_by (own := [("_law_room", 11)]) (N := ["_law_order", "_law_sorts", "_law_first", "_law_second", "_law_third", "_law_meets", "_law_one", "_law_other", "_law_to", "_law_pair", "_law_says", "_law_room"]) (sc := defScope s__law_round) (by decide +kernel)) (fun _ _ _ _ _ => by exact (pg_name (i := 11) sc__law_round.nd rfl (by first | exact Or.inl rfl | exact Or.inr rfl))) (fun _ _ _ _ _ => by exact pts_nil) (fun _ _ _ _ _ => by exact (pe_cmpR op_eq (pv 11) (pv 2) (nomark _)))) pa_nil)))
    (pss_one (ps_ret (pe_tup (pa_cons pe_int (pa_cons (pe_op op_repT1 (pe_tup (pa_cons (pv 2) pa_nil)) (pv 1)) (pa_cons (pe_callTy call_tuple_of (by rfl) B.tuple (by decide +kernel) (pa_cons (pe_lc (own := [("_law_pair", 9)]) (g := (gName 9)) (tt := tYes) (te := (tOp (rCatA K) (tVar 9) (tDGet (tVar 5) (tVar 9)))) rfl sc__law_round.nd (pi_list (pe_callB (cr_sortedD hr.units rfl) (by rfl) B.sorted (by decide +kernel) (pa_cons (pv 5) pa_nil))) (blkOk_by (own := [("_law_pair", 9)]) (N := ["_law_order", "_law_sorts", "_law_first", "_law_second", "_law_third", "_law_meets", "_law_one", "_law_other", "_law_to", "_law_pair", "_law_says", "_law_room"]) (sc := defScope s__law_round) (by decide +kernel)) (fun _ _ _ _ _ => by exact (pg_name (i := 9) sc__law_round.nd rfl (by first | exact Or.inl rfl | exact Or.inr rfl))) (fun _ _ _ _ _ => by exact pts_nil) (fun _ _ _ _ _ => by exact (pe_op op_catA (pv 9) (pe_dget hu (pv 5) (pv 9) (fun _ _ => rfl))))) pa_nil)) (pa_cons (pv 10) pa_nil))))))))))), ?_⟩
  obtain ⟨ol, ovs, rfl, hol, hop⟩ := hod
  have e0 := paired_int hop
  subst e0
  refine ⟨.ref ol, rfl, ol, _, rfl, SqL.of hol, rfl, .int f, _, rfl, .int s, _, rfl, .int t, _, rfl, rfl, ?_⟩
  dsimp only
  refine s_newD fun mo hm0 => ?_
  dsimp only
  refine s_forN (r := aT aI) (post := fun xs => xs = Tri f s t) (fun a => a = mo) (fun Q q => (el_lst (r := aT aI) (xs := Tri f s t) (eal_cons (ed_tup (r := aI) (eal_cons (ed_var rfl rfl) (eal_cons (ed_var rfl rfl) (eal_cons (ed_var rfl rfl) eal_nil))) (by show 3 ≤ 100000; decide)) (eal_cons (ed_tup (r := aI) (eal_cons (ed_var rfl rfl) (eal_cons (ed_var rfl rfl) (eal_cons (ed_var rfl rfl) eal_nil))) (by show 3 ≤ 100000; decide)) (eal_cons (ed_tup (r := aI) (eal_cons (ed_var rfl rfl) (eal_cons (ed_var rfl rfl) (eal_cons (ed_var rfl rfl) eal_nil))) (by show 3 ≤ 100000; decide)) eal_nil))) (by show 3 ≤ 100000; decide)) _ (Same.refl _) Q fun l ws H1 hl e hl1 hp => q l ws H1 _ hl e hl1 hp rfl)
    (fun a h => by rw [h, upd_same]; exact fun z => nomatch z) (fun a xs h => by rw [h, upd_same]; exact fun z => nomatch z)
    (fun xs i σ' H' => ∃ s6 s7 s8 s9 M, σ' = [some (.ref ol), some (.int 1), some (.int f), some (.int s), some (.int t), some (.ref mo), s6, s7, s8, s9, none, none] ∧ Same H H' ∧ (∃ kvs, H' mo = some (.dT kvs) ∧ KvP (aT aI) H' kvs M) ∧ M.length = i ∧ ∀ (j : Nat) p, M[j]? = some p → Ent f ([f, s, t].getD j 0) ([s, t, s].getD j 0) p)
    (fun xs H1 e hp => ⟨none, none, none, none, [], rfl, (Same.new hm0).trans e, ⟨[], e _ _ upd_same, .nil⟩, rfl, fun j p h => by simp at h⟩) ?_ ?_
  · rintro xs H1 i x xv σ' H2 e1 rfl hxi ⟨s6, s7, s8, s9, M, rfl, sm, ⟨kvs, hm, hkv⟩, hMl, hMe⟩ hsx hxv
    obtain ⟨r, to, hxe, hre, hte, hi3⟩ : ∃ r to, x = [f, r, to] ∧ [f, s, t].getD i 0 = r ∧ [s, t, s].getD i 0 = to ∧ i < 3 := by
      match i, hxi with
      | 0, hxi => cases hxi; exact ⟨f, s, rfl, rfl, rfl, by decide⟩
      | 1, hxi => cases hxi; exact ⟨s, t, rfl, rfl, rfl, by decide⟩
      | 2, hxi => cases hxi; exact ⟨t, s, rfl, rfl, rfl, by decide⟩
      | i + 3, hxi => simp at hxi
    subst hxe
    have hdist : ∀ j, j < i → [f, s, t].getD j 0 ≠ r := fun j hj => by
      rw [← hre]
      match i, j, hi3, hj with
      | 1, 0, _, _ => exact hfs
      | 2, 0, _, _ => exact hft
      | 2, 1, _, _ => exact hst
    refine tg3i hxv ?_
    dsimp only
    refine s_asg (r := aE (aT aI) fun ns => ns.Perm [f, r]) (x := ()) (ed_cbE (r := aL aI) (post := fun ns => ns.Perm [f, r]) (ed_sort2 (EdL.ed (el_lst (r := aI) (xs := [f, r]) (eal_cons (ed_var rfl rfl) (eal_cons (ed_var rfl rfl) eal_nil)) (by show 2 ≤ 100000; decide)))) fun ns te' H' e hp h => ed_toE (ed_tupL h) hp) fun pv H3 e3 ⟨pr, hpv, hpp⟩ => ?_
    have hnone : ∀ pr, (pr = [f, r] ∨ pr = [r, f]) → look M pr = none := fun pr hpr => by
      rw [look_none_iff]
      intro hmem
      obtain ⟨p, hp, he⟩ := List.mem_map.mp hmem
      obtain ⟨j, hj⟩ := List.mem_iff_getElem?.mp hp
      have hjl : j < i := by rw [← hMl]; exact (List.getElem?_eq_some_iff.mp hj).1
      have hd := hdist j hjl
      have hE := hMe j p hj
      generalize [f, s, t].getD j 0 = rj at hd hE
      rcases hE with h | ⟨hne, h⟩
      · rw [h] at he
        rcases hpr with h2 | h2
        · rw [h2] at he; injection he with _ h3; injection h3 with h4; exact hd h4
        · rw [h2] at he; injection he with h3 h4; injection h4 with h5; exact hd (h5.trans h3)
      · rw [h] at he
        rcases hpr with h2 | h2
        · rw [h2] at he; injection he with h3 h4; injection h4 with h5; exact hne h3
        · rw [h2] at he; injection he with h3 h4; exact hd h3
    have hpr := perm_pair hpp
    have hln := hnone pr hpr
    have hm3 := e3 _ _ hm
    have hkvl := hkv.length
    dsimp only
    refine s_putD (r := aT aI) (x := [f, to]) hm3 (ed_tup (r := aI) (eal_cons (ed_var rfl rfl) (eal_cons (ed_var rfl rfl) eal_nil)) (by show 2 ≤ 100000; decide)) (ed_ref rfl) (ed_var rfl hpv) (by omega) fun tv H4 e4 htv => ?_
    have hm4 := e4 _ _ hm3
    have hkv4 := kvP_same (e3.trans e4) hkv
    rw [putK_snoc tv hkv4 hln]
    have ts4 : TSm H4 (upd H4 mo (.dT (kvs ++ [(kk pr, tv)]))) := TSm.upD hm4
    have hpv4 := Im.ts ts4 (Mo.mo e4 hpv)
    have smx4 : SmX (fun a => a = mo) H2 (upd H4 mo (.dT (kvs ++ [(kk pr, tv)]))) := (SmX.of (e3.trans e4)).trans (SmX.up rfl)
    have fin : ∀ (H5 : Hp) (kvs' : List (List L2.Key × V)) (q : List Int × List Int) (s6 s7 s8 s9 : Option V), SmX (fun a => a = mo) H2 H5 → H5 mo = some (.dT kvs') → KvP (aT aI) H5 kvs' (M ++ [q]) → Ent f r to q →
        (∃ s6 s7 s8 s9 M, [some (.ref ol), some (.int 1), some (.int f), some (.int s), some (.int t), some (.ref mo), some (.int f), some (.int r), some (.int to), some pv, none, none] = [some (.ref ol), some (.int 1), some (.int f), some (.int s), some (.int t), some (.ref mo), s6, s7, s8, s9, none, none] ∧ Same H H5 ∧ (∃ kvs, H5 mo = some (.dT kvs) ∧ KvP (aT aI) H5 kvs M) ∧ M.length = i + 1 ∧ ∀ (j : Nat) p, M[j]? = some p → Ent f ([f, s, t].getD j 0) ([s, t, s].getD j 0) p) ∧ SmX (fun a => a = mo) H1 H5 := fun H5 kvs' q _ _ _ _ hs hm5 hk5 hE =>
      ⟨⟨_, _, _, _, M ++ [q], rfl, hs.same sm fun a h => by rw [h]; exact hm0, ⟨kvs', hm5, hk5⟩, by rw [List.length_append, hMl]; rfl, fun j p hj => by
        by_cases hji : j < i
        · rw [List.getElem?_append_left (by omega)] at hj; exact hMe j p hj
        · have hjl := (List.getElem?_eq_some_iff.mp hj).1
          rw [List.length_append] at hjl
          have hjl' : j < M.length + 1 := hjl
          have : j = M.length := by omega
          subst this
          rw [List.getElem?_append_right (Nat.le_refl _), Nat.sub_self] at hj
          have hj' : q = p := Option.some.inj hj
          subst hj'
          rw [hMl, hre, hte]; exact hE⟩, hsx.trans hs⟩
    dsimp only
    refine s_if (et_test (ed_neI (ed_ixT (r := aI) (x := pr.getD 0 0) (ed_var rfl hpv4) ed_i (by rcases hpr with h | h <;> rw [h] <;> rfl)) (ed_var (r := aI) rfl rfl))) (fun hb H5 e5 => ?_) (fun hb H5 e5 => ?_)
    · have hp2 : r ≠ f ∧ pr = [r, f] := by
        rcases hpr with h | h
        · rw [h] at hb; simp at hb
        · rw [h] at hb; simp at hb; exact ⟨hb, h⟩
      have hm5 := e5 _ _ (upd_same (H := H4) (a := mo))
      refine s_putD (r := aT aI) (x := [to, f]) hm5 (ed_tup (r := aI) (eal_cons (ed_var rfl rfl) (eal_cons (ed_var rfl rfl) eal_nil)) (by show 2 ≤ 100000; decide)) (ed_ref rfl) (ed_var rfl (Mo.mo e5 hpv4)) (by rw [List.length_append]; show kvs.length + 1 < 100000; omega) fun tv2 H6 e6 htv2 => ?_
      have hm6 := e6 _ _ hm5
      rw [putK_last (KvP.no hkv4 hln)]
      refine fin _ _ (pr, [to, f]) none none none none ((smx4.trans (SmX.of (e5.trans e6))).trans (SmX.up rfl)) upd_same ?_ (Or.inr ⟨hp2.1, by rw [hp2.2]⟩)
      exact KvP.snoc (kvP_ts (ts4.trans ((TSm.of (e5.trans e6)).trans (TSm.upD hm6))) hkv4) (Im.upD hm6 htv2)
    · have hp2 : pr = [f, r] := by
        rcases hpr with h | h
        · exact h
        · rw [h] at hb; simp at hb; rw [h, hb]
      refine fin _ _ (pr, [f, to]) none none none none (smx4.trans (SmX.of e5)) (e5 _ _ upd_same) ?_ (Or.inl (by rw [hp2]))
      exact kvP_same e5 (KvP.snoc (kvP_ts ts4 hkv4) (Im.ts ts4 htv))
  · rintro xs σ' H1 rfl ⟨s6, s7, s8, s9, M, rfl, sm, ⟨kvs, hm, hkv⟩, hMl, hMe⟩
    have hM3 : M.length = 3 := hMl
    obtain ⟨p1, p2, p3, rfl⟩ : ∃ p1 p2 p3, M = [p1, p2, p3] := by
      match M, hM3 with
      | [a, b, c], _ => exact ⟨a, b, c, rfl⟩
    have E1 : Ent f f s p1 := hMe 0 p1 rfl
    have E2 : Ent f s t p2 := hMe 1 p2 rfl
    have E3 : Ent f t s p3 := hMe 2 p3 rfl
    have hE1 : p1 = ([f, f], [f, s]) := by
      rcases E1 with h | ⟨h, _⟩
      · exact h
      · exact absurd rfl h
    have hnk : (([p1, p2, p3] : List (List Int × List Int)).map (·.1)).Nodup := by
      rw [hE1]
      rcases E2 with h2 | ⟨_, h2⟩ <;> rcases E3 with h3 | ⟨_, h3⟩ <;> rw [h2, h3] <;> simp [hfs, hft, hst, Ne.symm hfs, Ne.symm hft, Ne.symm hst]
    have hkl := hkv.length
    dsimp only
    refine s_asg (r := aT aB) (x := (rg 0 3).map fun r => decide (r = f)) (ed_tupL (EdL.ed (el_is (el_lc1 (t := fun _ => true) (f := fun r => decide (r = f)) (u := aB) (src_rg1 (n := 3) ed_i (by decide) (by decide)) (by decide) (fun _ => rfl) (fun x xv H2 e2 hx hxv => et_yes) (fun x xv H2 e2 hx hxv _ => ed_eqI (ed_var rfl hxv) (ed_var (r := aI) rfl rfl))) (by rw [List.filter_eq_self.mpr (fun _ _ => rfl)]; rfl)))) fun yv H2 e2 hyv => ?_
    have hD : aD (aT aI) H2 (.ref mo) [p1, p2, p3] := ⟨mo, kvs, rfl, Rd.of (e2 _ _ hm), kvP_same e2 hkv⟩
    have hnek : ∀ p ∈ [p1, p2, p3], p.1 ≠ [] := fun p hp => by
      simp only [List.mem_cons, List.not_mem_nil, or_false] at hp
      rcases hp with rfl | rfl | rfl
      · rw [hE1]; exact fun z => nomatch z
      · rcases E2 with h | ⟨_, h⟩ <;> rw [h] <;> exact fun z => nomatch z
      · rcases E3 with h | ⟨_, h⟩ <;> rw [h] <;> exact fun z => nomatch z
    have hlen2 : ∀ p ∈ [p1, p2, p3], p.1.length = 2 ∧ p.2.length = 2 := fun p hp => by
      simp only [List.mem_cons, List.not_mem_nil, or_false] at hp
      rcases hp with rfl | rfl | rfl
      · rw [hE1]; exact ⟨rfl, rfl⟩
      · rcases E2 with h | ⟨_, h⟩ <;> rw [h] <;> exact ⟨rfl, rfl⟩
      · rcases E3 with h | ⟨_, h⟩ <;> rw [h] <;> exact ⟨rfl, rfl⟩
    dsimp only
    refine s_ret (ed_rule (ρ := ⟨3, [f], (sortC ([p1, p2, p3].map (·.1))).map (fun c => c ++ (look [p1, p2, p3] c).getD []), (rg 0 3).map fun r => decide (r = f)⟩) ed_i (ed_rep1 (ed_tup (r := aI) (xs := [f]) (eal_cons (ed_var rfl rfl) eal_nil) (by show 1 ≤ 100000; decide)) (ed_var rfl rfl))
      (ed_tupL (EdL.ed (el_is (el_lc1 (t := fun _ => true) (f := fun c => c ++ (look [p1, p2, p3] c).getD []) (u := aT aI) (src_list (EdL.ed (el_sortedD (s := aT aI) (gr := [p1, p2, p3]) (ed_var rfl hD) hnek))) (by rw [length_sortC]; show 3 ≤ 90000; decide) (fun _ => rfl) (fun x xv H3 e3 hx hxv => et_yes) (fun x xv H3 e3 hx hxv _ => ?_)) (by rw [List.filter_eq_self.mpr (fun _ _ => rfl)])))) (ed_var rfl hyv)) fun rv H3 e3 hrv => k rv H3 _ ((sm.trans e2).trans e3) hrv ?_
    · obtain ⟨p, hp, rfl⟩ := List.mem_map.mp (mem_sortC.mp hx)
      have hlk := look_of (c := p.1) (x := p.2) hnk (by simpa using hp)
      obtain ⟨l1, l2⟩ := hlen2 p hp
      refine ed_catT (ed_var rfl hxv) (ed_ixD (s := aT aI) (g := [p1, p2, p3]) (ed_var rfl (Mo.mo e3 hD)) (ed_var rfl hxv) (by rw [hlk]; rfl)) ?_
      rw [hlk]
      show p.1.length + p.2.length ≤ 100000
      omega
    · intro f' s' t' he
      have he : [f, s, t] = [f', s', t'] := he
      injection he with h1 h2; injection h2 with h2 h3; injection h3 with h3 _
      subst h1; subst h2; subst h3
      refine ⟨rfl, rfl, rfl, by rw [List.length_map, length_sortC]; rfl, p2.1 ++ p2.2, p3.1 ++ p3.2, fun m => ?_, ?_, ?_⟩
      · rw [List.mem_map]
        constructor
        · rintro ⟨c, hc, rfl⟩
          obtain ⟨p, hp, rfl⟩ := List.mem_map.mp (mem_sortC.mp hc)
          have hlk := look_of (c := p.1) (x := p.2) hnk (by simpa using hp)
          rw [hlk]
          simp only [List.mem_cons, List.not_mem_nil, or_false] at hp
          rcases hp with rfl | rfl | rfl
          · rw [hE1]; exact Or.inl rfl
          · exact Or.inr (Or.inl rfl)
          · exact Or.inr (Or.inr rfl)
        · have go : ∀ p ∈ [p1, p2, p3], ∃ a, a ∈ sortC ([p1, p2, p3].map (·.1)) ∧ a ++ (look [p1, p2, p3] a).getD [] = p.1 ++ p.2 := fun p hp => by
            refine ⟨p.1, mem_sortC.mpr (List.mem_map_of_mem hp), ?_⟩
            rw [look_of (c := p.1) (x := p.2) hnk (by simpa using hp)]; rfl
          rintro (rfl | rfl | rfl)
          · have := go p1 (by simp)
            rw [hE1] at this ⊢; exact this
          · exact go p2 (by simp)
          · exact go p3 (by simp)
      · rcases E2 with h | ⟨_, h⟩ <;> rw [h]
        · exact Or.inl rfl
        · exact Or.inr rfl
      · rcases E3 with h | ⟨_, h⟩ <;> rw [h]
        · exact Or.inl rfl
        · exact Or.inr rfl
end
end Pg

set_option Elab.async false
set_option linter.all false
set_option maxRecDepth 100000
set_option maxHeartbeats 4000000
namespace Pg
open PySem PySem.Spec PyProof.Rows L2 Pf
def cr0 (n f : Int) : List Int := (rg 0 3).map fun r => n * (if decide (r = f) then 1 else 0)
def Ord (f s t : Int) : Prop := [f, s, t] ∈ ([[0, 1, 2], [0, 2, 1], [1, 0, 2], [2, 0, 1]] : List (List Int))
def sureB (ρ : Rule) : Rule := ⟨ρ.rooms, ρ.starts, ρ.meets, [true, true, true]⟩
structure MathOk : Prop where
  A : ∀ f s t ρ, Ord f s t → RoundP f s t ρ → ∀ n : Int, 4 ≤ n → n ≤ 45 → PreA ρ (cr0 n f) ∧ ∀ lim, OkG (ρ, cr0 n f, lim) ↔ n * (n + 1) / 2 ≤ lim
  B : ∀ f s t ρ, Ord f s t → RoundP f s t ρ → PreEo 1 ρ qM 4 5 ∧ Runs (okE ρ qM 5) (goodE ρ qM) (begsB ρ 1 4) .paper
  C4 : ∀ f s t ρ, Ord f s t → RoundP f s t ρ → PreEo 1 (sureB ρ) qM 4 5 ∧ Runs (okE (sureB ρ) qM 5) (goodE (sureB ρ) qM) (begsB (sureB ρ) 1 4) .over
  C2 : ∀ f s t ρ, Ord f s t → RoundP f s t ρ → PreEo 1 (sureB ρ) qM 2 5 ∧ Runs (okE (sureB ρ) qM 5) (goodE (sureB ρ) qM) (begsB (sureB ρ) 1 2) .no
  D5 : PreEo 1 wideB qM 5 1000 ∧ Runs (okE wideB qM 1000) (goodE wideB qM) (begsB wideB 1 5) .no
  D6 : PreEo 1 wideB qM 6 1000 ∧ Runs (okE wideB qM 1000) (goodE wideB qM) (begsB wideB 1 6) .over
section
variable {P : Program} {w : World} {K : PySem.W.Frag} {mg : Str → Option Value} {base : Heap}
def SpLaw (K : PySem.W.Frag) : Sp := fun vs H Q _ => ∃ v ns, vs = [v] ∧ aK K H v ns ∧ ns.length ≤ 63 ∧ ∀ H', Q (.bl true) H'
/-- where the law stands -/
structure LSt (fl ol : Addr) (f s t : Int) (ρ : Rule) (vr : V) (tn : Int) (H : Hp) : Prop where
  fd : ∃ a b, H fl = some (.lst [.int a, .int b, .int tn])
  od : H ol = some (.lst [.int f, .int s, .int t])
  ne : ol ≠ fl
  r : aR H vr ρ
theorem LSt.same {fl ol : Addr} {f s t : Int} {ρ : Rule} {vr : V} {tn : Int} {H H' : Hp} (e : Same H H') (L : LSt fl ol f s t ρ vr tn H) : LSt fl ol f s t ρ vr tn H' := by
  obtain ⟨⟨a, b, h1⟩, h2, h3, h4⟩ := L
  exact ⟨⟨a, b, e _ _ h1⟩, e _ _ h2, h3, Mo.mo e h4⟩
theorem drawn {fl : Addr} {a b tn m : Int} {σ : L2.St} {H : Hp} {E : XK} {Q : VK} (hσ : σ[1]? = some (some (.ref fl))) (hf : H fl = some (.lst [.int a, .int b, .int tn])) (hm0 : 0 < m) (hm1 : m < 1000) (ht0 : 0 ≤ tn) (ht1 : tn ≤ 1000)
    (q : ∀ r b' H', 0 ≤ r → r < m → SmX (fun x => x = fl) H H' → H' fl = some (.lst [.int a, .int b', .int (tn + 1)]) → Q (.int r) H') : tCall SpDraw [] E (tCons (tVar 1) (tCons (tC (.int m)) tNil)) σ H Q :=
  ⟨.ref fl, hσ, fl, m, a, b, tn, rfl, hf, hm0, hm1, ht0, ht1, q⟩
theorem LSt.draw {fl ol : Addr} {f s t : Int} {ρ : Rule} {vr : V} {tn m : Int} {σ : L2.St} {H : Hp} {E : XK} {Q : VK} (L : LSt fl ol f s t ρ vr tn H) (hσ : σ[1]? = some (some (.ref fl))) (hm0 : 0 < m) (hm1 : m < 1000) (ht0 : 0 ≤ tn) (ht1 : tn ≤ 1000)
    (q : ∀ r H', 0 ≤ r → r < m → LSt fl ol f s t ρ vr (tn + 1) H' → TSm H H' → (∀ a xs, a ≠ fl → H a = some (.lst xs) → H' a = some (.lst xs)) → Q (.int r) H') : tCall SpDraw [] E (tCons (tVar 1) (tCons (tC (.int m)) tNil)) σ H Q := by
  obtain ⟨⟨a, b, h1⟩, h2, h3, h4⟩ := L
  refine drawn hσ h1 hm0 hm1 ht0 ht1 fun r b' H' hr0 hr1 sx hf => ?_
  have ts : TSm H H' := sx.ts fun x xs hx k => by rw [hx, h1] at k; cases k
  exact q r H' hr0 hr1 ⟨⟨a, b', hf⟩, sx _ _ h3 h2, h3, Im.ts ts h4⟩ ts fun a xs ha k => sx a _ ha k
theorem tm_true {α : Type} {C : Addr} {σ : L2.St} {H : Hp} {fa : Addr} {sp : Sp} {k : Nat} {targ : TE} {r : Rl α} {x : α} {E : XK} (hh : HeldX P w K mg base k fa sp) (h : Ed targ σ H r x) (hs : ∀ u H1, Same H H1 → r H1 u x → ∀ (Q1 : VK) (E1 : XK), (∀ H', Same H1 H' → E1 (.ref C) none H') → sp [u] H1 Q1 E1) :
    Ed (tCall (SpTM P w K mg base k C) [] E (tCons (tC (.ref fa)) (tCons targ tNil))) σ H aB true := fun H1 e Q q =>
  h H1 e _ fun u H2 e2 hu => ⟨fa, sp, u, rfl, hh, fun Q1 E1 _ k2 => hs u H2 (e.trans e2) hu Q1 E1 fun H' e' => k2 H' fun H'' e'' => q _ H'' ((e2.trans e').trans e'') rfl⟩
def aThR (deed : Int) (ρ : Rule) (c : List Int) (lim : Int) : Rl Unit := fun H v _ => aTh deed ρ c lim H v
theorem ed_th {σ : L2.St} {H : Hp} {td tr tc tl : TE} {deed lim : Int} {ρ : Rule} {c : List Int} (h1 : Ed td σ H aI deed) (h2 : Ed tr σ H aR ρ) (h3 : Ed tc σ H (aT aI) c) (h4 : Ed tl σ H aI lim) : Ed (tTup (tCons td (tCons tr (tCons tc (tCons tl tNil))))) σ H (aThR deed ρ c lim) () := fun H1 e Q q =>
  ea4 h1 h2 h3 h4 H1 e _ fun vs H2 e2 ⟨v1, v2, v3, v4, g0, g1, g2, g3, g4⟩ => ⟨by rw [g0]; exact sz_of (by show 4 ≤ 100000; decide), fun p hp => by
    cases g1; cases g4
    exact q _ _ (e2.trans (Same.new hp)) ⟨p, v2, v3, rfl, by rw [g0]; exact upd_same, Mo.mo (Same.new hp) g2, Mo.mo (Same.new hp) g3⟩⟩
def aTfR (ρ : Rule) (most lim : Int) : Rl Unit := fun H v _ => aTf ρ most lim H v
theorem ed_tf {σ : L2.St} {H : Hp} {tr tm tl : TE} {most lim : Int} {ρ : Rule} (h2 : Ed tr σ H aR ρ) (h1 : Ed tm σ H aI most) (h4 : Ed tl σ H aI lim) : Ed (tTup (tCons tr (tCons tm (tCons tl tNil)))) σ H (aTfR ρ most lim) () := fun H1 e Q q =>
  ea3 h2 h1 h4 H1 e _ fun vs H2 e2 ⟨v1, v2, v3, g0, g1, g2, g3⟩ => ⟨by rw [g0]; exact sz_of (by show 3 ≤ 100000; decide), fun p hp => by
    cases g2; cases g3
    exact q _ _ (e2.trans (Same.new hp)) ⟨p, v1, rfl, by rw [g0]; exact upd_same, Mo.mo (Same.new hp) g1⟩⟩
abbrev rNotN : R2 := fun x y H Q => y = .non ∧ Q (.bl (!decide (x = .non))) H
theorem first_ne {C : Addr} {σ : L2.St} {H : Hp} {tr tm tl : TE} {ρ : Rule} {most lim : Int} {W : L2.St → XK} {o : Out} {b : Bool} (hr : Ed tr σ H aR ρ) (hm : Ed tm σ H aI most) (hl : Ed tl σ H aI lim) (hp : PreEo 1 ρ qM most (effL lim) ∧ Runs (okE ρ qM (effL lim)) (goodE ρ qM) (begsB ρ 1 most.toNat) o) (ho : (o = .no ∧ b = false) ∨ (o = .paper ∧ b = true)) :
    Ed (tOp rNotN (tCallSD (SpAskF C) [] W (tCons (tTup (tCons tr (tCons tm (tCons tl tNil)))) tNil)) (tC .non)) σ H aB b := fun H1 e Q q =>
  show tTup (tCons tr (tCons tm (tCons tl tNil))) σ H1 (fun u H2 => SpAskF C [u] H2 (fun x H3 => rNotN x .non H3 Q) (W σ)) from (ed_tf hr hm hl) H1 e _ fun u H2 e2 hu => by
    refine ⟨u, ρ, most, lim, o, rfl, hu, hp.1, hp.2, fun h H' e' => ?_, fun h v H' e' hv => ?_, fun h => ?_⟩
    · rcases ho with ⟨_, rfl⟩ | ⟨h2, _⟩
      · exact ⟨rfl, q _ H' (e2.trans e') rfl⟩
      · rw [h] at h2; cases h2
    · rcases ho with ⟨h2, _⟩ | ⟨_, rfl⟩
      · rw [h] at h2; cases h2
      · exact ⟨rfl, q _ H' (e2.trans e') (by show V.bl _ = V.bl _; rw [decide_eq_false hv]; rfl)⟩
    · rcases ho with ⟨h2, _⟩ | ⟨h2, _⟩ <;> rw [h] at h2 <;> cases h2
theorem told_ed {C : Addr} {σ : L2.St} {H : Hp} {targ : TE} {deed lim : Int} {ρ : Rule} {c : List Int} {E : XK} {b : Bool} (h : Ed targ σ H (aThR deed ρ c lim) ()) (hA : PreA ρ c) (hb : OkG (ρ, c, effL lim) ↔ b = true) : Ed (tCall (SpTold C) [] E (tCons targ tNil)) σ H aB b := fun H1 e Q q =>
  h H1 e _ fun u H2 e2 hu => ⟨u, deed, ρ, c, lim, rfl, hu, hA, fun ho H' e' => q _ H' (e2.trans e') (by rw [hb.mp ho]; rfl), fun ho H' e' => q _ H' (e2.trans e') (by
    cases b with
    | false => rfl
    | true => exact absurd (hb.mpr rfl) ho)⟩
section
variable {α : Type} {σ : L2.St} {H : Hp} {D : Ends} {i : Nat} {fl : Addr} {a b tn m : Int} {E : XK} {r : Rl α}
theorem s_feed {a0 : Addr} {ns : List Int} (h : σ[0]? = some (some (.ref a0))) (hv : aK K H (.ref a0) ns) (hl : ns.length ≤ 1000) (k : ∀ l a b H', H l = none → Same H H' → H' l = some (.lst [.int a, .int b, .int 0]) → D.nx (σ.set i (some (.ref l))) H') : tAsg (tCall (SpFeed K) [] E (tCons (tVar 0) (tCons (tC (.int 0)) tNil))) (gName i) D σ H :=
  ⟨.ref a0, h, .ref a0, ns, rfl, hv, hl, k⟩
theorem s_draw (hσ : σ[1]? = some (some (.ref fl))) (hf : H fl = some (.lst [.int a, .int b, .int tn])) (hm0 : 0 < m) (hm1 : m < 1000) (ht0 : 0 ≤ tn) (ht1 : tn ≤ 1000) (k : ∀ r b' H', 0 ≤ r → r < m → SmX (fun x => x = fl) H H' → H' fl = some (.lst [.int a, .int b', .int (tn + 1)]) → D.nx (σ.set i (some (.int r))) H') :
    tAsg (tCall SpDraw [] E (tCons (tVar 1) (tCons (tC (.int m)) tNil))) (gName i) D σ H :=
  ⟨.ref fl, hσ, fl, m, a, b, tn, rfl, hf, hm0, hm1, ht0, ht1, k⟩
theorem s_addraw {c : Int} (hσ : σ[1]? = some (some (.ref fl))) (hf : H fl = some (.lst [.int a, .int b, .int tn])) (hm0 : 0 < m) (hm1 : m < 1000) (ht0 : 0 ≤ tn) (ht1 : tn ≤ 1000) (k : ∀ r b' H', 0 ≤ r → r < m → SmX (fun x => x = fl) H H' → H' fl = some (.lst [.int a, .int b', .int (tn + 1)]) → D.nx (σ.set i (some (.int (c + r)))) H') :
    tAsg (tOp (rI0 fun i j => V.int (i + j)) (tC (.int c)) (tCall SpDraw [] E (tCons (tVar 1) (tCons (tC (.int m)) tNil)))) (gName i) D σ H :=
  ⟨.ref fl, hσ, fl, m, a, b, tn, rfl, hf, hm0, hm1, ht0, ht1, fun r b' H' h0 h1 h2 h3 => ⟨c, r, rfl, rfl, k r b' H' h0 h1 h2 h3⟩⟩
theorem s_pick {tl : TE} {xs : List α} (hl : EdL tl σ H r xs) (hσ : σ[1]? = some (some (.ref fl))) (hf : H fl = some (.lst [.int a, .int b, .int tn])) (hm0 : 0 < xs.length) (hm1 : xs.length < 1000) (hm : m = (xs.length : Int)) (ht0 : 0 ≤ tn) (ht1 : tn ≤ 1000)
    (k : ∀ x v b' H1 H2, x ∈ xs → Same H H1 → r H1 v x → SmX (fun x => x = fl) H1 H2 → H2 fl = some (.lst [.int a, .int b', .int (tn + 1)]) → D.nx (σ.set i (some v)) H2) :
    tAsg (tOp (rIxL K) tl (tCall SpDraw [] E (tCons (tVar 1) (tCons (tC (.int m)) tNil)))) (gName i) D σ H :=
  hl H (Same.refl _) _ fun l ws H1 hl0 e1 hl1 hp => ⟨.ref fl, hσ, fl, m, a, b, tn, rfl, e1 _ _ hf, by omega, by omega, ht0, ht1, fun r b' H' h0 h1 h2 h3 => by
    have hlf : l ≠ fl := fun z => by rw [z, hf] at hl0; cases hl0
    obtain ⟨j, rfl⟩ : ∃ j : Nat, r = (j : Int) := ⟨r.toNat, by omega⟩
    have hj : j < xs.length := by omega
    have hx : xs[j]? = some xs[j] := List.getElem?_eq_getElem hj
    obtain ⟨w, hw, hr⟩ := Paired.getr hp hx
    exact ⟨l, ws, (j : Int), w, rfl, rfl, SqL.of (h2 _ _ hlf hl1), atI_nat hw, k _ w b' H1 H' (List.mem_of_getElem? hx) e1 hr h2 h3⟩⟩
/-- an if: both ways go on alike -/
theorem s_fork {tt : TT} {tw tv : TS} (R : L2.St → Hp → Prop) (kk : ∀ σ' H', R σ' H' → D.nx σ' H') (main : (∀ σ' H', R σ' H' → D.nx σ' H') → tIfS tt tw tv D σ H) : tIfS tt tw tv D σ H := main kk
theorem s_wide (k : ∀ v H', Same H H' → aR H' v wideB → D.nx (σ.set i (some v)) H') : tAsg (tCall SpWide [] E tNil) (gName i) D σ H := ⟨rfl, k⟩
theorem s_round {te : TE} {f s t : Int} (h : Ed te σ H (aL aI) [f, s, t]) (h1 : f ≠ s) (h2 : f ≠ t) (h3 : s ≠ t) (k : ∀ v ρ H', Same H H' → aR H' v ρ → RoundP f s t ρ → D.nx (σ.set i (some v)) H') : tAsg (tCall SpRound [] E (tCons te (tCons (tC (.int 1)) tNil))) (gName i) D σ H :=
  ed_callP (p := ([f, s, t], (1 : Int))) (eA2 (s := aI) h ed_i) ⟨f, s, t, rfl, rfl, h1, h2, h3⟩ H (Same.refl _) _ fun v H' e ⟨ρ, h4, h5⟩ => k v ρ H' e h4 (h5 f s t rfl)
/-- rule[:3] + ((True, True, True),) -/
def aVal : Rl V := fun _ v w => v = w
instance : Mo aVal := ⟨fun _ h => h⟩
theorem paired_val {H : Hp} : ∀ vs : List V, Paired (aVal H) vs vs
  | [] => .nil
  | _ :: r => .cons rfl (paired_val r)
theorem ed_sure {tr ts : TE} {ρ : Rule} (h : Ed tr σ H aR ρ) (h2 : Ed ts σ H (aT aB) [true, true, true]) : Ed (tOp (rCatA K) (tSl (rSlA K) tr tNoPart (tPart (tC (.int 3)))) (tTup (tCons ts tNil))) σ H aR (sureB ρ) := fun H1 e Q q =>
  show tr σ H1 (fun v H2 => (tOp (rCatA K) (tSl (rSlA K) (tC v) tNoPart (tPart (tC (.int 3)))) (tTup (tCons ts tNil))) σ H2 Q) from h H1 e _ fun v H2 e2 ⟨a, v0, v1, v2, v3, g1, g2, g3, g4, g5, g6⟩ => by
    subst g1
    have hs : Ed (tSl (rSlA K) (tC (.ref a)) tNoPart (tPart (tC (.int 3)))) σ H2 (aT aVal) [v0, v1, v2] := ed_cutT (r := aVal) (xs := [v0, v1, v2, v3]) (ed_v ⟨a, _, rfl, g2, paired_val _⟩) eo_no (eo_some ed_i)
    refine (show tSl (rSlA K) (tC (.ref a)) tNoPart (tPart (tC (.int 3))) σ H2 (fun x H3 => (tTup (tCons ts tNil)) σ H3 fun y H4 => rCatA K x y H4 Q) from hs H2 (Same.refl _) _ fun x H3 e3 ⟨b, xs, k1, k2, k3⟩ => ?_)
    have k3' : xs = [v0, v1, v2] := by
      cases k3 with | cons k4 k5 => cases k5 with | cons k6 k7 => cases k7 with | cons k8 k9 => cases k9; rw [show _ = v0 from k4, show _ = v1 from k6, show _ = v2 from k8]
    subst k3'
    refine h2 H3 ((e.trans e2).trans e3) _ fun y H4 e4 hy => ⟨sz_of (by show 1 ≤ 100000; decide), fun p hp => ?_⟩
    have e5 : Same H2 (upd H4 p (.tup [y])) := (e3.trans e4).trans (Same.new hp)
    refine ⟨b, p, [v0, v1, v2], [y], k1, rfl, SqT.of ((e4.trans (Same.new hp)) _ _ k2), SqT.of upd_same, sz_of (by show 4 ≤ 100000; decide), (fun z => nomatch z), (fun _ z => nomatch z), fun _ _ p2 hp2 => ?_⟩
    have e6 : Same H2 (upd (upd H4 p (.tup [y])) p2 (.tup ([v0, v1, v2] ++ [y]))) := e5.trans (Same.new hp2)
    exact q _ _ (e2.trans e6) ⟨p2, v0, v1, v2, y, rfl, upd_same, g3, Mo.mo e6 g4, Mo.mo e6 g5, Mo.mo ((Same.new hp).trans (Same.new hp2)) hy⟩
end
theorem fnok_cl {n : Str} {st : Stmt} {ps N : List Str} {sp : Sp} {k : Nat} {f : Addr} {fd : FuncData} (F : FunD K n n (defArgs st) (defBody st) (defScope st) [] [] f fd) (S : FnScope N ps (defScope st)) (len : ∀ vs H Q E, sp vs H Q E → vs.length = ps.length)
    (hbody : ∀ (cdv : Value) (A : Around) (outer : List Env) (s : Shared) (H : Hp) (vs : List V) (Q : VK) (E : XK), Room k (A.deeper (envOfC n (defScope st) s.heap.objs.size f cdv)) → sp vs H Q E →
      ∃ t, PSs (cxOf CX0 P w K mg base N n (defScope st) f cdv A outer s H E).nox (defBody st) t ∧ t { nx := fun _ H' => Q .non H', rt := Q } (start N vs) H) : FnOk P w K mg base CX0 (k + 1) f fd ps sp :=
  F.ok S len fun cdv A outer s H vs Q E hr h => by
    obtain ⟨t, h1, h2⟩ := hbody cdv A outer s H vs Q E hr h
    exact ⟨t, h1.nox, h2⟩
theorem ok_law (B : Bt mg) {C fA fF : Addr} (MK : MathOk) (g__law_ask : mg "_law_ask" = some (.ref fA)) (g__law_ask_first : mg "_law_ask_first" = some (.ref fF)) (hA : HeldX P w K mg base 8 fA (SpAsk C)) (hF : HeldX P w K mg base 8 fF (SpAskF C))
    (c__law_feed : Cl P w K mg base CX0 1 "_law_feed" ["_law_script", "_law_at"] [] (SpFeed K)) (c__law_draw : Cl P w K mg base CX0 1 "_law_draw" ["_law_feed_here", "_law_many"] [] SpDraw) (c__law_round : Cl P w K mg base CX0 1 "_law_round" ["_law_order", "_law_sorts"] [] SpRound)
    (c__law_wide : Cl P w K mg base CX0 1 "_law_wide" [] [] SpWide) (c__law_ask_first : Cl P w K mg base (L2.CX P w) 8 "_law_ask_first" ["_law_things"] [] (SpAskF C)) (c__law_too_many : Cl P w K mg base CX0 9 "_law_too_many" ["_law_ask_here", "_law_things"] [] (SpTM P w K mg base 8 C)) (c__law_told : Cl P w K mg base CX0 9 "_law_told" ["_law_things"] [] (SpTold C))
    {f : Addr} {fd : FuncData} (d : FunD K "law" "law" (defArgs s_law) (defBody s_law) (defScope s_law) [] [] f fd) : FnOk P w K mg base CX0 10 f fd ["_law_script"] (SpLaw K) := by
  refine fnok_cl d sc_law (fun _ _ _ _ ⟨_, _, h, _⟩ => by rw [h]; rfl) (fun cdv A outer s H vs Q E hr h => ?_)
  obtain ⟨v, ns, rfl, hv, hl, k⟩ := h
  have hu := hu_of hr
  refine ⟨_, (pss_cons (ps_set (i := 1) sc_law.nd rfl (by first | exact Or.inl rfl | exact Or.inr rfl) (pe_cl c__law_feed (hr.mono (by first | decide | omega)) (by rfl) pass0 (pa_cons (pv 0) (pa_cons pe_int pa_nil))))
    (pss_cons (ps_set (i := 2) sc_law.nd rfl (by first | exact Or.inl rfl | exact Or.inr rfl) (pe_ix ix_list (pe_lst (pa_cons (pe_lst (pa_cons pe_int (pa_cons pe_int (pa_cons pe_int pa_nil)))) (pa_cons (pe_lst (pa_cons pe_int (pa_cons pe_int (pa_cons pe_int pa_nil)))) (pa_cons (pe_lst (pa_cons pe_int (pa_cons pe_int (pa_cons pe_int pa_nil)))) (pa_cons (pe_lst (pa_cons pe_int (pa_cons pe_int (pa_cons pe_int pa_nil)))) pa_nil))))) (pe_cl c__law_draw (hr.mono (by first | decide | omega)) (by rfl) pass0 (pa_cons (pv 1) (pa_cons pe_int pa_nil))) (fun _ _ => rfl)))
    (pss_cons (ps_set (i := 3) sc_law.nd rfl (by first | exact Or.inl rfl | exact Or.inr rfl) (pe_cl c__law_round (hr.mono (by first | decide | omega)) (by rfl) pass0 (pa_cons (pv 2) (pa_cons pe_int pa_nil))))
    (pss_cons (ps_set (i := 4) sc_law.nd rfl (by first | exact Or.inl rfl | exact Or.inr rfl) (pe_cl c__law_draw (hr.mono (by first | decide | omega)) (by rfl) pass0 (pa_cons (pv 1) (pa_cons pe_int pa_nil))))
    (pss_cons (ps_if (pt_cmpR op_eq (pv 4) pe_int (nomark _)) (pss_cons (ps_set (i := 5) sc_law.nd rfl (by first | exact Or.inl rfl | exact Or.inr rfl) (pe_cl0 c__law_wide (hr.mono (by first | decide | omega)) (by rfl) pass0))
    (pss_cons (ps_if (PW.pt (pw_or (pt_cmpR op_notN (pe_clS c__law_ask_first (hr.mono (by first | decide | omega)) (by rfl) (fun σ => passAt takes_no σ) (pa_cons (pe_tup (pa_cons (pv 5) (pa_cons pe_int (pa_cons pe_int pa_nil)))) pa_nil)) pe_non (nomark _)) (pw_or1 (pt_not (pt_val (pe_cl c__law_too_many (hr.mono (by first | decide | omega)) (by rfl) pass0 (pa_cons (pe_glob (v := .ref _) (by rfl) g__law_ask_first rfl) (pa_cons (pe_tup (pa_cons (pv 5) (pa_cons pe_int (pa_cons pe_int pa_nil)))) pa_nil)))))))) (pss_one (ps_ret pe_bl)) pss_nil)
    (pss_one (ps_set (i := 4) sc_law.nd rfl (by first | exact Or.inl rfl | exact Or.inr rfl) pe_int)))) pss_nil)
    (pss_cons (ps_for PassesOwn.never rfl (pi_list (pe_lst (pa_cons pe_int (pa_cons pe_int pa_nil)))) (pg_name (i := 6) sc_law.nd rfl (by first | exact Or.inl rfl | exact Or.inr rfl))
    (pss_cons (ps_set (i := 7) sc_law.nd rfl (by first | exact Or.inl rfl | exact Or.inr rfl) (pe_callTy call_tuple_of (by rfl) B.tuple (by decide +kernel) (pa_cons (pe_lc (own := [("_law_room", 12)]) (g := (gName 12)) (tt := tYes) (te := (tOp _ (tVar 6) (tCB _ (tCons (tOp _ (tVar 12) (tOp (rIxL K) (tVar 2) (tC _))) tNil)))) rfl sc_law.nd (pi_range1 rfl B.range (pa_cons pe_int pa_nil)) (blkOk_by (own := [("_law_room", 12)]) (N := ["_law_script", "_law_feed_here", "_law_order", "_law_rule", "_law_deed", "_law_wide_here", "_law_hands", "_law_crowd", "_law_many", "_law_one", "_law_limit", "_law_sure", "_law_room"]) (sc := defScope s_law) (by decide +kernel)) (fun _ _ _ _ _ => by exact (pg_name (i := 12) sc_law.nd rfl (by first | exact Or.inl rfl | exact Or.inr rfl))) (fun _ _ _ _ _ => by exact pts_nil) (fun _ _ _ _ _ => by exact (pe_op op_mul (pv 6) (pe_callTy call_int1 (by rfl) B.int (by decide +kernel) (pa_cons (pe_cmpR op_eq (pv 12) (pe_ix ix_list (pv 2) pe_int (fun _ _ => rfl)) (nomark _)) pa_nil))))) pa_nil)))
    (pss_cons (ps_set (i := 8) sc_law.nd rfl (by first | exact Or.inl rfl | exact Or.inr rfl) (pe_op op_fdiv (pe_op op_mul (pv 6) (pe_op op_add (pv 6) pe_int)) pe_int))
    (pss_cons (ps_if (pt_cmpR op_ne (pe_cl c__law_told (hr.mono (by first | decide | omega)) (by rfl) pass0 (pa_cons (pe_tup (pa_cons (pv 4) (pa_cons (pv 3) (pa_cons (pv 7) (pa_cons pe_int pa_nil))))) pa_nil)) (pe_cmpR op_le (pv 8) pe_int (nomark _)) (nomark _)) (pss_one (ps_ret pe_bl)) pss_nil)
    (pss_one (ps_if (PW.pt (pw_and (pt_cmpR op_gt (pv 8) pe_int (nomark _)) (pw_and1 (pt_not (pt_val (pe_cl c__law_too_many (hr.mono (by first | decide | omega)) (by rfl) pass0 (pa_cons (pe_glob (v := .ref _) (by rfl) g__law_ask rfl) (pa_cons (pe_tup (pa_cons (pv 4) (pa_cons (pv 3) (pa_cons (pv 7) (pa_cons pe_int pa_nil))))) pa_nil)))))))) (pss_one (ps_ret pe_bl)) pss_nil))))))
    (pss_cons (ps_set (i := 6) sc_law.nd rfl (by first | exact Or.inl rfl | exact Or.inr rfl) (pe_op op_add pe_int (pe_cl c__law_draw (hr.mono (by first | decide | omega)) (by rfl) pass0 (pa_cons (pv 1) (pa_cons pe_int pa_nil)))))
    (pss_cons (ps_set (i := 7) sc_law.nd rfl (by first | exact Or.inl rfl | exact Or.inr rfl) (pe_callTy call_tuple_of (by rfl) B.tuple (by decide +kernel) (pa_cons (pe_lc (own := [("_law_room", 12)]) (g := (gName 12)) (tt := tYes) (te := (tOp _ (tVar 6) (tCB _ (tCons (tOp _ (tVar 12) (tOp (rIxL K) (tVar 2) (tC _))) tNil)))) rfl sc_law.nd (pi_range1 rfl B.range (pa_cons pe_int pa_nil)) (blkOk_by (own := [("_law_room", 12)]) (N := ["_law_script", "_law_feed_here", "_law_order", "_law_rule", "_law_deed", "_law_wide_here", "_law_hands", "_law_crowd", "_law_many", "_law_one", "_law_limit", "_law_sure", "_law_room"]) (sc := defScope s_law) (by decide +kernel)) (fun _ _ _ _ _ => by exact (pg_name (i := 12) sc_law.nd rfl (by first | exact Or.inl rfl | exact Or.inr rfl))) (fun _ _ _ _ _ => by exact pts_nil) (fun _ _ _ _ _ => by exact (pe_op op_mul (pv 6) (pe_callTy call_int1 (by rfl) B.int (by decide +kernel) (pa_cons (pe_cmpR op_eq (pv 12) (pe_ix ix_list (pv 2) pe_int (fun _ _ => rfl)) (nomark _)) pa_nil))))) pa_nil)))
    (pss_cons (ps_set (i := 8) sc_law.nd rfl (by first | exact Or.inl rfl | exact Or.inr rfl) (pe_op op_fdiv (pe_op op_mul (pv 6) (pe_op op_add (pv 6) pe_int)) pe_int))
    (pss_cons (ps_for PassesOwn.never rfl (pi_range1 rfl B.range (pa_cons pe_int pa_nil)) (pg_name (i := 9) sc_law.nd rfl (by first | exact Or.inl rfl | exact Or.inr rfl))
    (pss_cons (ps_set (i := 10) sc_law.nd rfl (by first | exact Or.inl rfl | exact Or.inr rfl) (pe_ix ix_list (pe_lst (pa_cons (pv 8) (pa_cons (pe_op op_add (pv 8) pe_int) (pa_cons pe_int pa_nil)))) (pe_cl c__law_draw (hr.mono (by first | decide | omega)) (by rfl) pass0 (pa_cons (pv 1) (pa_cons pe_int pa_nil))) (fun _ _ => rfl)))
    (pss_one (ps_if (PW.pt (pw_or (pt_not (pt_val (pe_cl c__law_told (hr.mono (by first | decide | omega)) (by rfl) pass0 (pa_cons (pe_tup (pa_cons (pv 9) (pa_cons (pv 3) (pa_cons (pv 7) (pa_cons (pv 10) pa_nil))))) pa_nil)))) (pw_or1 (pt_not (pt_val (pe_cl c__law_too_many (hr.mono (by first | decide | omega)) (by rfl) pass0 (pa_cons (pe_glob (v := .ref _) (by rfl) g__law_ask rfl) (pa_cons (pe_tup (pa_cons (pv 9) (pa_cons (pv 3) (pa_cons (pv 7) (pa_cons (pe_op op_sub (pv 8) pe_int) pa_nil))))) pa_nil)))))))) (pss_one (ps_ret pe_bl)) pss_nil))))
    (pss_cons (ps_set (i := 11) sc_law.nd rfl (by first | exact Or.inl rfl | exact Or.inr rfl) (pe_op op_catA (pe_slice sl_tupA (pv 3) po_none (po_some pe_int)) (pe_tup (pa_cons (pe_tup (pa_cons pe_bl (pa_cons pe_bl (pa_cons pe_bl pa_nil)))) pa_nil))))
    (pss_cons (ps_if (PW.pt (pw_or (pt_not (pt_val (pe_cl c__law_too_many (hr.mono (by first | decide | omega)) (by rfl) pass0 (pa_cons (pe_glob (v := .ref _) (by rfl) g__law_ask_first rfl) (pa_cons (pe_tup (pa_cons (pv 11) (pa_cons pe_int (pa_cons pe_int pa_nil)))) pa_nil))))) (pw_or1 (pt_cmpR op_notN (pe_clS c__law_ask_first (hr.mono (by first | decide | omega)) (by rfl) (fun σ => passAt takes_no σ) (pa_cons (pe_tup (pa_cons (pv 11) (pa_cons pe_int (pa_cons pe_int pa_nil)))) pa_nil)) pe_non (nomark _))))) (pss_one (ps_ret pe_bl)) pss_nil)
    (pss_one (ps_ret (pe_cmpR op_notN (pe_clS c__law_ask_first (hr.mono (by first | decide | omega)) (by rfl) (fun σ => passAt takes_no σ) (pa_cons (pe_tup (pa_cons (pv 3) (pa_cons pe_int (pa_cons pe_int pa_nil)))) pa_nil)) pe_non (nomark _)))))))))))))))), ?_⟩
  obtain ⟨a0, rfl, hv0⟩ := id hv
  -- the feed, the order
  refine s_feed rfl hv (Nat.le_trans hl (by decide)) fun fl fa fb H1 hf0 e1 hfl => ?_
  dsimp only
  refine s_pick (r := aL aI) (xs := [[0, 1, 2], [0, 2, 1], [1, 0, 2], [2, 0, 1]]) (el_lst (r := aL aI) (eal_cons (EdL.ed (el_lst (eal_cons ed_i (eal_cons ed_i (eal_cons ed_i eal_nil))) (by decide))) (eal_cons (EdL.ed (el_lst (eal_cons ed_i (eal_cons ed_i (eal_cons ed_i eal_nil))) (by decide))) (eal_cons (EdL.ed (el_lst (eal_cons ed_i (eal_cons ed_i (eal_cons ed_i eal_nil))) (by decide))) (eal_cons (EdL.ed (el_lst (eal_cons ed_i (eal_cons ed_i (eal_cons ed_i eal_nil))) (by decide))) eal_nil)))) (by decide)) rfl hfl (by decide) (by decide) rfl (by decide) (by decide) fun x ov b1 H2 H3 hx e2 hov sx3 hfl3 => ?_
  obtain ⟨f, s, t, hxe, hO⟩ : ∃ f s t, x = [f, s, t] ∧ Ord f s t := by
    simp only [List.mem_cons, List.not_mem_nil, or_false] at hx
    rcases hx with rfl | rfl | rfl | rfl
    · exact ⟨_, _, _, rfl, by unfold Ord; decide⟩
    · exact ⟨_, _, _, rfl, by unfold Ord; decide⟩
    · exact ⟨_, _, _, rfl, by unfold Ord; decide⟩
    · exact ⟨_, _, _, rfl, by unfold Ord; decide⟩
  subst hxe
  have hOd : f ≠ s ∧ f ≠ t ∧ s ≠ t ∧ t ≠ 0 := by
    unfold Ord at hO
    simp only [List.mem_cons, List.not_mem_nil, or_false] at hO
    rcases hO with h | h | h | h <;> (injection h with h1 h2; injection h2 with h2 h3; injection h3 with h3 _; subst h1; subst h2; subst h3; decide)
  obtain ⟨hfs, hft, hst, ht0⟩ := hOd
  obtain ⟨ol, ows, rfl, hol2, hop⟩ := hov
  have := paired_int hop
  subst this
  have hofl : ol ≠ fl := by
    intro z
    rw [z, e2 _ _ hfl] at hol2
    injection hol2 with h; injection h with h; injection h with _ h; injection h with _ h; injection h with h _; injection h with h
    exact ht0 h.symm
  have hol3 := sx3 _ _ hofl hol2
  dsimp only
  refine s_round (ed_var rfl ⟨ol, _, rfl, hol3, int_paired _ _⟩) hfs hft hst fun vr ρ H4 e4 hvr hRP => ?_
  have L4 : LSt fl ol f s t ρ vr 1 H4 := ⟨⟨_, _, e4 _ _ hfl3⟩, e4 _ _ hol3, hofl, hvr⟩
  have hMA := MK.A f s t ρ hO hRP
  -- a step of draws keeps
  have step : ∀ {tn : Int} {H H' : Hp} {a b : Int}, LSt fl ol f s t ρ vr tn H → SmX (fun x => x = fl) H H' → H' fl = some (.lst [.int a, .int b, .int (tn + 1)]) → LSt fl ol f s t ρ vr (tn + 1) H' ∧ TSm H H' := fun {tn H H' a b} L sx hf => by
    obtain ⟨⟨a', b', h1⟩, h2, h3, h4⟩ := L
    have ts : TSm H H' := sx.ts fun x xs hx k => by rw [hx, h1] at k; cases k
    exact ⟨⟨⟨a, b, hf⟩, sx _ _ h3 h2, h3, Im.ts ts h4⟩, ts⟩
  obtain ⟨⟨a4, b4, hfl4⟩, _, _, _⟩ := id L4
  dsimp only
  refine s_draw rfl hfl4 (by decide) (by decide) (by decide) (by decide) fun dr b5 H5 hd0 hd1 sx5 hfl5 => ?_
  obtain ⟨L5, _⟩ := step L4 sx5 hfl5
  dsimp only
  refine s_fork (fun σ' H' => ∃ dn s5, 0 ≤ dn ∧ dn < 7 ∧ σ' = [some (.ref a0), some (.ref fl), some (.ref ol), some vr, some (.int dn), s5, none, none, none, none, none, none, none] ∧ LSt fl ol f s t ρ vr 2 H') ?rest fun kk => ?first
  case first =>
    refine s_if (b := decide (dr = 7)) (et_test (ed_eqI (ed_var (r := aI) (i := 4) (v := .int dr) rfl rfl) ed_i)) (fun hb H6 e6 => ?_) (fun hb H6 e6 => ?_)
    · refine s_wide fun wv H7 e7 hwv => ?_
      dsimp only
      refine s_if (b := false) (et_is (et_or (b := false) (c := false) (et_test (first_ne (o := .no) (b := false) (most := 5) (lim := 0) (ed_var rfl hwv) ed_i ed_i MK.D5 (Or.inl ⟨rfl, rfl⟩))) fun _ => et_is (et_not (et_B (tm_true hF (ed_tf (ρ := wideB) (most := 6) (lim := 0) (ed_var rfl hwv) ed_i ed_i) fun u H8 e8 hu Q1 E1 he => ⟨u, wideB, 6, 0, .over, rfl, hu, MK.D6.1, MK.D6.2, (fun z => nomatch z), (fun z => nomatch z), fun _ H' e' => he H' e'⟩))) rfl) rfl) (fun z => nomatch z) (fun _ H8 e8 => ?_)
      dsimp only [tNext]
      refine s_asg (r := aI) (x := 6) ed_i fun sv H9 e9 hsv => ?_
      cases hsv
      exact kk _ _ ⟨6, _, by decide, by decide, rfl, L5.same ((e6.trans e7).trans (e8.trans e9))⟩
    · have hne : dr ≠ 7 := of_decide_eq_false hb
      exact kk _ _ ⟨dr, _, hd0, by omega, rfl, L5.same e6⟩
  case rest =>
    rintro σ' H6 ⟨dn, s5, hdn0, hdn1, rfl, L6⟩
    -- crowds by count
    have crowdE : ∀ {n : Int} {s4 s5 s7 s8 s9 s10 s11 : Option V} {H' : Hp}, -1000 ≤ n → n ≤ 1000 → H' ol = some (.lst [.int f, .int s, .int t]) →
        Ed (tCB (rTupS K) (tCons (tLc (iRng1 (tCons (tC (.int 3)) tNil)) (gName 12) tYes (tOp (L2.rI CMul fun i j => V.int (i * j)) (tVar 6) (tCB (fun xs H Q => (∃ i, xs = [.int i] ∧ Q (.int i) H) ∨ ∃ k, xs = [.bl k] ∧ Q (.int (if k then 1 else 0)) H) (tCons (tOp rEq (tVar 12) (tOp (rIxL K) (tVar 2) (tC (.int 0)))) tNil))) [12]) tNil)) [some (.ref a0), some (.ref fl), some (.ref ol), some vr, s4, s5, some (.int n), s7, s8, s9, s10, s11, none] H' (aT aI) (cr0 n f) := fun {n s4 s5 s7 s8 s9 s10 s11 H'} h1 h2 ho =>
      ed_tupL (EdL.ed (el_is (el_lc1 (t := fun _ => true) (f := fun r => n * (if decide (r = f) then 1 else 0)) (u := aI) (src_rg1 (n := 3) ed_i (by decide) (by decide)) (by decide) (fun _ => rfl) (fun x xv H2 e2 hx hxv => et_yes) (fun x xv H2 e2 hx hxv _ => ed_mul (ed_var (r := aI) rfl rfl) (ed_intB (ed_eqI (ed_var rfl hxv) (ed_ixL (r := aI) (xs := [f, s, t]) (ed_var rfl ⟨ol, _, rfl, e2 _ _ ho, int_paired _ [f, s, t]⟩) ed_i rfl))) (Or.inl ⟨by omega, by omega⟩))) (by rw [List.filter_eq_self.mpr (fun _ _ => rfl)]; rfl)))
    have manyE : ∀ {n : Int} {s4 s5 s7 s8 s9 s10 s11 s12 : Option V} {H' : Hp}, -1000 ≤ n → n ≤ 1000 →
        Ed (tOp (L2.rI CDiv fun i j => V.int (i / j)) (tOp (L2.rI CMul fun i j => V.int (i * j)) (tVar 6) (tOp (rI0 fun i j => V.int (i + j)) (tVar 6) (tC (.int 1)))) (tC (.int 2))) [some (.ref a0), some (.ref fl), some (.ref ol), some vr, s4, s5, some (.int n), s7, s8, s9, s10, s11, s12] H' aI (n * (n + 1) / 2) := fun {n s4 s5 s7 s8 s9 s10 s11 s12 H'} h1 h2 =>
      ed_fdiv (ed_mul (ed_var (r := aI) rfl rfl) (ed_add (ed_var (r := aI) rfl rfl) ed_i) (Or.inl ⟨by omega, by omega⟩)) ed_i ⟨by decide, by decide⟩
    have toldB : ∀ n : Int, 4 ≤ n → n ≤ 45 → ∀ lim b, decide (n * (n + 1) / 2 ≤ effL lim) = b → (OkG (ρ, cr0 n f, effL lim) ↔ b = true) := fun n h1 h2 lim b hb => by rw [(hMA n h1 h2).2, ← hb, decide_eq_true_eq]
    have tmB : ∀ {n lim deed : Int} {σ : L2.St} {H' : Hp} {td tc tl : TE} {E : XK}, 4 ≤ n → n ≤ 45 → ¬ n * (n + 1) / 2 ≤ effL lim → Ed td σ H' aI deed → Ed (tVar 3) σ H' aR ρ → Ed tc σ H' (aT aI) (cr0 n f) → Ed tl σ H' aI lim →
        Ed (tCall (SpTM P w K mg base 8 C) [] E (tCons (tC (.ref fA)) (tCons (tTup (tCons td (tCons (tVar 3) (tCons tc (tCons tl tNil))))) tNil))) σ H' aB true := fun {n lim deed σ H' td tc tl E} h1 h2 h3 hd hr hc hl =>
      tm_true hA (ed_th hd hr hc hl) fun u H8 e8 hu Q1 E1 he => ⟨u, deed, ρ, cr0 n f, lim, rfl, hu, (hMA n h1 h2).1, fun ho => absurd ((hMA n h1 h2).2 _ |>.mp ho) h3, fun _ H' e' => he H' e'⟩
    refine s_forX (S := fun _ => False) (r := aI) (xs := [44, 45]) (fun H7 e7 Q' q' => (el_lst (r := aI) (xs := [44, 45]) (eal_cons ed_i (eal_cons ed_i eal_nil)) (by decide)) H7 e7 Q' fun l ws H8 hl0 e8 hl8 hp8 => q' _ H8 e8 ⟨l, ws, rfl, id, hl8, hp8⟩)
      (fun i σ' H' => ∃ s6 s7 s8, σ' = [some (.ref a0), some (.ref fl), some (.ref ol), some vr, some (.int dn), s5, s6, s7, s8, none, none, none, none] ∧ LSt fl ol f s t ρ vr 2 H') (fun H7 e7 => ⟨none, none, none, rfl, L6.same e7⟩) ?_ ?_
    · rintro H7 i n nv σ' H8 e7 hni ⟨s6, s7, s8, rfl, L8⟩ hls hnv
      cases hnv
      have hn : 4 ≤ n ∧ n ≤ 45 := by
        have := List.mem_of_getElem? hni
        simp only [List.mem_cons, List.not_mem_nil, or_false] at this
        rcases this with rfl | rfl <;> decide
      refine s_asg (crowdE (by omega) (by omega) L8.od) fun cv H9 e9 hcv => ?_
      dsimp only
      refine s_asg (manyE (by omega) (by omega)) fun mv H10 e10 hmv => ?_
      cases hmv
      have L10 := L8.same (e9.trans e10)
      have hcv10 := Mo.mo e10 hcv
      dsimp only
      refine s_if (b := false) (et_is (et_test (ed_neB (told_ed (b := decide (n * (n + 1) / 2 ≤ 1000)) (ed_th (lim := 0) (ed_var (r := aI) rfl rfl) (ed_var rfl L10.r) (ed_var rfl hcv10) ed_i) (hMA n hn.1 hn.2).1 (toldB n hn.1 hn.2 0 _ rfl)) (ed_le (ed_var (r := aI) rfl rfl) ed_i))) (by simp)) (fun z => nomatch z) (fun _ H11 e11 => ?_)
      have L11 := L10.same e11
      dsimp only [tNext]
      refine s_if (b := false) (et_is (et_and (b := decide (1000 < n * (n + 1) / 2)) (c := false) (et_test (ed_gt (ed_var (r := aI) rfl rfl) ed_i)) fun hgt => et_is (et_not (et_B (tmB (n := n) (lim := 0) hn.1 hn.2 (by have := of_decide_eq_true hgt; show ¬ _ ≤ (1000 : Int); omega) (ed_var (r := aI) rfl rfl) (ed_var rfl L11.r) (ed_var rfl (Mo.mo e11 hcv10)) ed_i))) rfl) (by simp)) (fun z => nomatch z) (fun _ H12 e12 => ?_)
      exact ⟨⟨_, _, _, rfl, L11.same e12⟩, hls.trans (LSm.of (((e9.trans e10).trans e11).trans e12))⟩
    · rintro H7 σ' H8 e7 hls ⟨s6, s7, s8, rfl, L8⟩
      obtain ⟨⟨a8, b8, hfl8⟩, _, _, _⟩ := id L8
      dsimp only
      refine s_addraw rfl hfl8 (by decide) (by decide) (by decide) (by decide) fun hr0 b9 H9 hh0 hh1 sx9 hfl9 => ?_
      obtain ⟨L9, _⟩ := step L8 sx9 hfl9
      generalize hne : 4 + hr0 = n
      have hn : 4 ≤ n ∧ n ≤ 45 := by omega
      have hn12 : n ≤ 12 := by omega
      have hmany : 10 ≤ n * (n + 1) / 2 ∧ n * (n + 1) / 2 ≤ 78 := by
        have h1 : n = 4 ∨ n = 5 ∨ n = 6 ∨ n = 7 ∨ n = 8 ∨ n = 9 ∨ n = 10 ∨ n = 11 ∨ n = 12 := by omega
        rcases h1 with h | h | h | h | h | h | h | h | h <;> rw [h] <;> decide
      dsimp only
      refine s_asg (crowdE (by omega) (by omega) L9.od) fun cv H10 e10 hcv => ?_
      dsimp only
      refine s_asg (manyE (by omega) (by omega)) fun mv H11 e11 hmv => ?_
      cases hmv
      generalize hme : n * (n + 1) / 2 = m at hmany
      have L11 : LSt fl ol f s t ρ vr (3 + ((0 : Nat) : Int)) H11 := by
        have e : (2 + 1 : Int) = 3 + ((0 : Nat) : Int) := by decide
        rw [← e]; exact L9.same (e10.trans e11)
      have hcv11 := Mo.mo e11 hcv
      dsimp only
      refine s_forR1 (n := 7) ed_i (by decide) (by decide) (fun i σ' H' => ∃ s9 s10, σ' = [some (.ref a0), some (.ref fl), some (.ref ol), some vr, some (.int dn), s5, some (.int n), some cv, some (.int m), s9, s10, none, none] ∧ LSt fl ol f s t ρ vr (3 + (i : Int)) H' ∧ aT aI H' cv (cr0 n f) ∧ i ≤ 7) (fun H12 e12 => ⟨none, none, rfl, L11.same e12, Mo.mo e12 hcv11, by decide⟩) ?_ ?_
      · rintro i σ' H12 hi ⟨s9, s10, rfl, L12, hcv12, _⟩
        obtain ⟨⟨a12, b12, hfl12⟩, _, _, _⟩ := id L12
        refine s_pick (r := aI) (xs := [m, m + 1, 3000]) (el_lst (eal_cons (ed_var rfl rfl) (eal_cons (ed_add (ed_var rfl rfl) ed_i) (eal_cons ed_i eal_nil))) (by show 3 ≤ 100000; decide)) rfl hfl12 (by show 0 < 3; decide) (by show 3 < 1000; decide) rfl (by omega) (by omega) fun lim lv b13 H13 H14 hlim e13 hlv sx14 hfl14 => ?_
        cases hlv
        obtain ⟨L14, ts14⟩ := step (L12.same e13) sx14 hfl14
        have hcv14 := Im.ts ts14 (Mo.mo e13 hcv12)
        have hlim2 : m ≤ lim ∧ lim ≠ 0 := by
          simp only [List.mem_cons, List.not_mem_nil, or_false] at hlim
          rcases hlim with rfl | rfl | rfl <;> omega
        have heff : effL lim = lim := by unfold effL; rw [if_neg hlim2.2]
        have heff2 : effL (m - 1) = m - 1 := by unfold effL; rw [if_neg (by omega)]
        dsimp only
        refine s_if (b := false) (et_is (et_or (b := false) (c := false) (et_is (et_not (et_B (told_ed (b := true) (ed_th (lim := lim) (ed_var (r := aI) rfl rfl) (ed_var rfl L14.r) (ed_var rfl hcv14) (ed_var (r := aI) rfl rfl)) (hMA n hn.1 hn.2).1 (toldB n hn.1 hn.2 lim true (by rw [heff, hme]; exact decide_eq_true hlim2.1))))) rfl) fun _ => et_is (et_not (et_B (tmB (n := n) (lim := m - 1) hn.1 hn.2 (by rw [heff2, hme]; omega) (ed_var (r := aI) rfl rfl) (ed_var rfl L14.r) (ed_var rfl hcv14) (ed_sub (ed_var (r := aI) rfl rfl) ed_i)))) rfl) rfl) (fun z => nomatch z) (fun _ H15 e15 => ?_)
        refine ⟨_, _, rfl, ?_, Mo.mo e15 hcv14, by omega⟩
        have : (3 : Int) + ((i + 1 : Nat) : Int) = 3 + (i : Int) + 1 := by omega
        rw [this]; exact L14.same e15
      · rintro σ' H12 ⟨s9, s10, rfl, L12, hcv12, _⟩
        dsimp only
        refine s_asg (r := aR) (x := sureB ρ) (ed_sure (ed_var rfl L12.r) (ed_tup (r := aB) (xs := [true, true, true]) (eal_cons ed_b (eal_cons ed_b (eal_cons ed_b eal_nil))) (by decide))) fun sv H13 e13 hsv => ?_
        have L13 := L12.same e13
        dsimp only
        refine s_if (b := false) (et_is (et_or (b := false) (c := false) (et_is (et_not (et_B (tm_true hF (ed_tf (ρ := sureB ρ) (most := 4) (lim := 5) (ed_var rfl hsv) ed_i ed_i) fun u H8 e8 hu Q1 E1 he => ⟨u, sureB ρ, 4, 5, .over, rfl, hu, (MK.C4 f s t ρ hO hRP).1, (MK.C4 f s t ρ hO hRP).2, (fun z => nomatch z), (fun z => nomatch z), fun _ H' e' => he H' e'⟩))) rfl) fun _ => et_test (first_ne (o := .no) (b := false) (most := 2) (lim := 5) (ed_var rfl hsv) ed_i ed_i (MK.C2 f s t ρ hO hRP) (Or.inl ⟨rfl, rfl⟩))) rfl) (fun z => nomatch z) (fun _ H14 e14 => ?_)
        dsimp only [tNext]
        exact s_ret (first_ne (o := .paper) (b := true) (most := 4) (lim := 5) (ed_var rfl (L13.same e14).r) ed_i ed_i (MK.B f s t ρ hO hRP) (Or.inr ⟨rfl, rfl⟩)) fun rv H15 e15 hrv => by cases hrv; exact k H15
end
end Pg

set_option Elab.async false
set_option linter.all false
set_option maxRecDepth 100000
set_option maxHeartbeats 4000000
namespace Pg
open PySem PySem.Spec PyProof.Rows L2 Pf
theorem getD_set (c : List Int) (i j : Nat) (v : Int) (h : i < c.length) : (c.set i v).getD j 0 = if i = j then v else c.getD j 0 := by
  rw [List.getD_eq_getElem?_getD, List.getElem?_set, List.getD_eq_getElem?_getD]
  by_cases e : i = j
  · subst e; rw [if_pos rfl, if_pos rfl, if_pos h]; rfl
  · rw [if_neg e, if_neg e]
theorem val_dec (c : List Int) (i j : Nat) (h : i < c.length) : (dec c (i : Int)).getD j 0 = c.getD j 0 - (if i = j then 1 else 0) := by
  unfold dec
  rw [Int.toNat_natCast, getD_set _ _ _ _ h]
  by_cases e : i = j
  · subst e; rw [if_pos rfl, if_pos rfl]
  · rw [if_neg e, if_neg e]; omega
theorem val_inc (c : List Int) (i j : Nat) (h : i < c.length) : (inc c (i : Int)).getD j 0 = c.getD j 0 + (if i = j then 1 else 0) := by
  unfold inc
  rw [Int.toNat_natCast, getD_set _ _ _ _ h]
  by_cases e : i = j
  · subst e; rw [if_pos rfl, if_pos rfl]
  · rw [if_neg e, if_neg e]; omega
theorem ext_val {x y : List Int} (hl : x.length = y.length) (h : ∀ j, j < x.length → x.getD j 0 = y.getD j 0) : x = y := by
  apply List.ext_getElem hl
  intro j h1 h2
  have := h j h1
  rw [List.getD_eq_getElem?_getD, List.getD_eq_getElem?_getD, List.getElem?_eq_getElem h1, List.getElem?_eq_getElem h2] at this
  exact this
theorem sum_set : ∀ (c : List Int) (i : Nat) (v : Int), i < c.length → (c.set i v).sum = c.sum - c.getD i 0 + v
  | [], i, v, h => by simp at h
  | x :: c, 0, v, _ => by simp; omega
  | x :: c, i + 1, v, h => by
    have := sum_set c i v (by simpa using h)
    simp only [List.set_cons_succ, List.sum_cons, List.getD_cons_succ, this]; omega
theorem sum_dec (c : List Int) (i : Nat) (h : i < c.length) : (dec c (i : Int)).sum = c.sum - 1 := by
  unfold dec; rw [Int.toNat_natCast, sum_set _ _ _ h]; omega
theorem sum_inc (c : List Int) (i : Nat) (h : i < c.length) : (inc c (i : Int)).sum = c.sum + 1 := by
  unfold inc; rw [Int.toNat_natCast, sum_set _ _ _ h]; omega
theorem sum_nn : ∀ {c : List Int}, (∀ j, j < c.length → 0 ≤ c.getD j 0) → 0 ≤ c.sum
  | [], _ => by simp
  | x :: c, h => by
    have h1 := h 0 (by simp)
    have h2 := sum_nn (c := c) fun j hj => by have := h (j + 1) (by simpa using hj); simpa using this
    simp at h1 ⊢; omega
theorem sum_zero : ∀ {c : List Int}, (∀ j, j < c.length → c.getD j 0 = 0) → c.sum = 0
  | [], _ => by simp
  | x :: c, h => by
    have h1 := h 0 (by simp)
    have h2 := sum_zero (c := c) fun j hj => by have := h (j + 1) (by simpa using hj); simpa using this
    simp at h1 ⊢; omega
theorem val_le {c : List Int} (h : ∀ j, j < c.length → 0 ≤ c.getD j 0) {i : Nat} (hi : i < c.length) : c.getD i 0 ≤ c.sum := by
  have h1 := sum_set c i 0 hi
  have h2 : 0 ≤ (c.set i 0).sum := sum_nn fun j hj => by
    rw [getD_set _ _ _ _ hi]
    by_cases e : i = j
    · rw [if_pos e]; exact Int.le_refl _
    · rw [if_neg e]; exact h j (by simpa using hj)
  omega
theorem mem_stepsB {ρ : Rule} {x y : List Int} : (∃ b ∈ stepsB ρ x, b.2 = y) ↔ ∃ m ∈ ρ.meets, mayBe x m = true ∧ y = behind x m := by
  unfold stepsB canB
  constructor
  · rintro ⟨b, hb, rfl⟩
    obtain ⟨k, hk, rfl⟩ := List.mem_map.mp hb
    obtain ⟨p, hp, rfl⟩ := List.mem_map.mp hk
    obtain ⟨h1, h2⟩ := List.mem_filter.mp hp
    obtain ⟨n, h3, h4⟩ := num_at h1
    refine ⟨p.2, List.mem_of_getElem? h4, h2, ?_⟩
    show metF ρ x p.1 = _
    unfold metF
    rw [h3, Int.toNat_natCast, List.getD_eq_getElem?_getD, h4]; rfl
  · rintro ⟨m, hm, h2, rfl⟩
    obtain ⟨i, hi⟩ := List.mem_iff_getElem?.mp hm
    have hnum : ∀ (xs : List (List Int)) (k : Int) (i : Nat) (m : List Int), xs[i]? = some m → (k + (i : Int), m) ∈ num k xs := by
      intro xs
      induction xs with
      | nil => intro k i m h; simp at h
      | cons a r ih =>
        intro k i m h
        cases i with
        | zero => simp at h; subst h; simp [num]
        | succ i =>
          have := ih (k + 1) i m (by simpa using h)
          refine List.mem_cons_of_mem _ ?_
          have e : k + ((i + 1 : Nat) : Int) = k + 1 + (i : Int) := by omega
          rw [e]; exact this
    have hin := hnum ρ.meets 0 i m hi
    rw [Int.zero_add] at hin
    refine ⟨((i : Int), metF ρ x (i : Int)), List.mem_map.mpr ⟨(i : Int), List.mem_map.mpr ⟨((i : Int), m), List.mem_filter.mpr ⟨hin, h2⟩, rfl⟩, rfl⟩, ?_⟩
    show metF ρ x (i : Int) = _
    unfold metF
    rw [Int.toNat_natCast, List.getD_eq_getElem?_getD, hi]; rfl
/-- one hand from r to r' -/
def mv (x : List Int) (r r' : Nat) : List Int := inc (dec x (r : Int)) (r' : Int)
theorem mv_len (x : List Int) (r r' : Nat) : (mv x r r').length = x.length := by unfold mv; rw [inc_length, dec_length]
theorem val_mv (x : List Int) {r r' : Nat} (j : Nat) (h : r < x.length) (h' : r' < x.length) : (mv x r r').getD j 0 = x.getD j 0 - (if r = j then 1 else 0) + (if r' = j then 1 else 0) := by
  unfold mv; rw [val_inc _ _ _ (by rw [dec_length]; exact h'), val_dec _ _ _ h]
theorem sum_mv (x : List Int) {r r' : Nat} (h : r < x.length) (h' : r' < x.length) : (mv x r r').sum = x.sum := by
  unfold mv; rw [sum_inc _ _ (by rw [dec_length]; exact h'), sum_dec _ _ h]; omega
theorem behind_mv1 (x : List Int) {a r r' : Nat} (ha : a < x.length) (h : r < x.length) (h' : r' < x.length) : behind x [(a : Int), (r : Int), (a : Int), (r' : Int)] = mv x r r' := by
  apply ext_val (by rw [behind_length, mv_len])
  intro j _
  rw [val_mv x j h h']
  show (inc (inc (dec (dec x (a : Int)) (r : Int)) (a : Int)) (r' : Int)).getD j 0 = _
  rw [val_inc _ _ _ (by rw [inc_length, dec_length, dec_length]; exact h'), val_inc _ _ _ (by rw [dec_length, dec_length]; exact ha), val_dec _ _ _ (by rw [dec_length]; exact h), val_dec _ _ _ ha]
  omega
theorem behind_mv2 (x : List Int) {a r r' : Nat} (ha : a < x.length) (h : r < x.length) (h' : r' < x.length) : behind x [(r : Int), (a : Int), (r' : Int), (a : Int)] = mv x r r' := by
  apply ext_val (by rw [behind_length, mv_len])
  intro j _
  rw [val_mv x j h h']
  show (inc (inc (dec (dec x (r : Int)) (a : Int)) (r' : Int)) (a : Int)).getD j 0 = _
  rw [val_inc _ _ _ (by rw [inc_length, dec_length, dec_length]; exact ha), val_inc _ _ _ (by rw [dec_length, dec_length]; exact h'), val_dec _ _ _ (by rw [dec_length]; exact ha), val_dec _ _ _ h]
  omega
/-- a meeting of the hand in a: whoever is in r goes to r' -/
def Mt (a r r' : Nat) (m : List Int) : Prop := m = [(a : Int), (r : Int), (a : Int), (r' : Int)] ∨ (r ≠ a ∧ m = [(r : Int), (a : Int), (r' : Int), (a : Int)])
theorem Mt.behind {x : List Int} {a r r' : Nat} {m : List Int} (h : Mt a r r' m) (ha : a < x.length) (hr : r < x.length) (h' : r' < x.length) : Pg.behind x m = mv x r r' := by
  rcases h with rfl | ⟨_, rfl⟩
  · exact behind_mv1 x ha hr h'
  · exact behind_mv2 x ha hr h'
theorem Mt.may {x : List Int} {a r r' : Nat} {m : List Int} (h : Mt a r r' m) : mayBe x m = true ↔ if r = a then 2 ≤ x.getD a 0 else 1 ≤ x.getD a 0 ∧ 1 ≤ x.getD r 0 := by
  rcases h with rfl | ⟨hne, rfl⟩
  · show (if (a : Int) = (r : Int) then decide (2 ≤ x.getD (a : Int).toNat 0) else decide (1 ≤ x.getD (a : Int).toNat 0) && decide (1 ≤ x.getD (r : Int).toNat 0)) = true ↔ _
    rw [Int.toNat_natCast, Int.toNat_natCast]
    by_cases e : r = a
    · subst e; rw [if_pos rfl, if_pos rfl, decide_eq_true_eq]
    · rw [if_neg (by omega), if_neg e, Bool.and_eq_true, decide_eq_true_eq, decide_eq_true_eq]
  · show (if (r : Int) = (a : Int) then decide (2 ≤ x.getD (r : Int).toNat 0) else decide (1 ≤ x.getD (r : Int).toNat 0) && decide (1 ≤ x.getD (a : Int).toNat 0)) = true ↔ _
    rw [Int.toNat_natCast, Int.toNat_natCast, if_neg (by omega), if_neg hne, Bool.and_eq_true, decide_eq_true_eq, decide_eq_true_eq, and_comm]
structure Sx (k a : Nat) (n : Int) (x : List Int) : Prop where
  len : x.length = k
  nn : ∀ j, j < k → 0 ≤ x.getD j 0
  one : 1 ≤ x.getD a 0
  sum : x.sum = n
structure Fam (ρ : Rule) (k a : Nat) (rs : List Nat) : Prop where
  ak : a < k
  all : ∀ m ∈ ρ.meets, ∃ r r' : Nat, r < k ∧ r' < k ∧ r' ≠ a ∧ Mt a r r' m
  rk : ∀ r ∈ rs, r < k ∧ r ≠ a
  cov : ∀ j, j < k → j ≠ a → j ∈ rs
  first : ∀ r ∈ rs.head?, ∃ m ∈ ρ.meets, Mt a a r m
  next : ∀ (t : Nat) r r', rs[t]? = some r → rs[t + 1]? = some r' → ∃ m ∈ ρ.meets, Mt a r r' m
theorem Sx.step {ρ : Rule} {k a : Nat} {rs : List Nat} {n : Int} {x : List Int} (F : Fam ρ k a rs) (h : Sx k a n x) {b : Int × List Int} (hb : b ∈ stepsB ρ x) : Sx k a n b.2 := by
  obtain ⟨m, hm, hmay, he⟩ := mem_stepsB.mp ⟨b, hb, rfl⟩
  obtain ⟨r, r', hr, hr', hra, hM⟩ := F.all m hm
  have hl := h.len
  rw [he, hM.behind (by rw [hl]; exact F.ak) (by rw [hl]; exact hr) (by rw [hl]; exact hr')]
  have hv := fun j => val_mv x (r := r) (r' := r') j (by rw [hl]; exact hr) (by rw [hl]; exact hr')
  have hmay := hM.may.mp hmay
  have h1 := h.one
  refine ⟨by rw [mv_len, hl], fun j hj => ?_, ?_, by rw [sum_mv x (by rw [hl]; exact hr) (by rw [hl]; exact hr'), h.sum]⟩
  · rw [hv]
    have h0 := h.nn j hj
    by_cases e : r = j
    · subst e
      rw [if_pos rfl]
      by_cases e2 : r = a
      · rw [if_pos e2] at hmay; subst e2; split <;> omega
      · rw [if_neg e2] at hmay; split <;> omega
    · rw [if_neg e]; split <;> omega
  · rw [hv, if_neg hra]
    by_cases e2 : r = a
    · rw [if_pos e2] at hmay; rw [if_pos e2]; omega
    · rw [if_neg e2]; omega
theorem reach_step {ρ : Rule} {c x y : List Int} {m : List Int} (h : Reach ρ c x) (hm : m ∈ ρ.meets) (hmay : mayBe x m = true) (he : y = behind x m) : Reach ρ c y := by
  obtain ⟨b, hb, rfl⟩ := mem_stepsB.mpr ⟨m, hm, hmay, he⟩
  exact .step h hb
theorem Fam.reach {ρ : Rule} {k a : Nat} {rs : List Nat} (F : Fam ρ k a rs) {n : Int} {c : List Int} (hcl : c.length = k) (hcv : ∀ j, j < k → c.getD j 0 = if j = a then n else 0) : ∀ (d : Nat) (x : List Int), Sx k a n x → (n - x.getD a 0).toNat = d → Reach ρ c x := by
  intro d
  induction d with
  | zero =>
    intro x hx hd
    have hle := val_le (c := x) (fun j hj => hx.nn j (by rw [← hx.len]; exact hj)) (i := a) (by rw [hx.len]; exact F.ak)
    rw [hx.sum] at hle
    have hxa : x.getD a 0 = n := by omega
    have hs := sum_set x a 0 (by rw [hx.len]; exact F.ak)
    rw [hx.sum, hxa] at hs
    have : x = c := ext_val (by rw [hx.len, hcl]) fun j hj => by
      rw [hx.len] at hj
      rw [hcv j hj]
      by_cases e : j = a
      · subst e; rw [if_pos rfl]; exact hxa
      · rw [if_neg e]
        have hnn : ∀ i, i < (x.set a 0).length → 0 ≤ (x.set a 0).getD i 0 := fun i hi => by
          rw [getD_set _ _ _ _ (by rw [hx.len]; exact F.ak)]
          by_cases e' : a = i
          · rw [if_pos e']; exact Int.le_refl _
          · rw [if_neg e']; exact hx.nn i (by rw [List.length_set, hx.len] at hi; exact hi)
        have h1 := val_le hnn (i := j) (by rw [List.length_set, hx.len]; exact hj)
        rw [getD_set _ _ _ _ (by rw [hx.len]; exact F.ak), if_neg (Ne.symm e)] at h1
        have := hx.nn j hj
        omega
    rw [this]; exact .refl
  | succ d ih =>
    intro x hx hd
    have hl := hx.len
    have hak : a < x.length := by rw [hl]; exact F.ak
    obtain ⟨j, hj, hja, hxj⟩ : ∃ j, j < k ∧ j ≠ a ∧ 1 ≤ x.getD j 0 := by
      refine Classical.byContradiction fun hno => ?_
      have hz : (x.set a 0).sum = 0 := sum_zero fun i hi => by
        rw [List.length_set, hl] at hi
        rw [getD_set _ _ _ _ hak]
        by_cases e : a = i
        · rw [if_pos e]
        · rw [if_neg e]
          have h1 := hx.nn i hi
          by_cases h2 : 1 ≤ x.getD i 0
          · exact absurd ⟨i, hi, Ne.symm e, h2⟩ hno
          · omega
      rw [sum_set _ _ _ hak, hx.sum] at hz
      omega
    have hjl : j < x.length := by rw [hl]; exact hj
    -- z: the hand in j taken away
    have hzl : (dec x (j : Int)).length = k := by rw [dec_length, hl]
    have hzv := fun i => val_dec x j i hjl
    generalize hz : dec x (j : Int) = z at hzl hzv
    have hziv := fun (i i' : Nat) (hi : i < k) => val_inc z i i' (by rw [hzl]; exact hi)
    have hzsum : z.sum = n - 1 := by rw [← hz, sum_dec _ _ hjl, hx.sum]
    have hza : z.getD a 0 = x.getD a 0 := by rw [hzv, if_neg hja]; omega
    have hone := hx.one
    have hznn : ∀ i, i < k → 0 ≤ z.getD i 0 := fun i hi => by
      rw [hzv]
      have := hx.nn i hi
      by_cases e : j = i
      · subst e; rw [if_pos rfl]; omega
      · rw [if_neg e]; omega
    have hS : ∀ i, i < k → Sx k a n (inc z (i : Int)) := fun i hi => ⟨by rw [inc_length, hzl], fun i' hi' => by
      rw [hziv i i' hi]; have := hznn i' hi'; split <;> omega, by rw [hziv i a hi, hza]; split <;> omega, by rw [sum_inc _ _ (by rw [hzl]; exact hi), hzsum]; omega⟩
    have hy : Reach ρ c (inc z (a : Int)) := ih _ (hS a F.ak) (by rw [hziv a a F.ak, if_pos rfl, hza]; omega)
    have along : ∀ (t r : Nat), rs[t]? = some r → Reach ρ c (inc z (r : Int)) := by
      intro t
      induction t with
      | zero =>
        intro r hr
        have hrm := List.mem_of_getElem? hr
        obtain ⟨hrk, hra⟩ := F.rk r hrm
        obtain ⟨m, hm, hM⟩ := F.first r (by rw [List.head?_eq_getElem?, hr]; rfl)
        refine reach_step hy hm (hM.may.mpr ?_) ?_
        · rw [if_pos rfl, hziv a a F.ak, if_pos rfl, hza]; omega
        · rw [hM.behind (by rw [inc_length, hzl]; exact F.ak) (by rw [inc_length, hzl]; exact F.ak) (by rw [inc_length, hzl]; exact hrk)]
          refine ext_val (by rw [mv_len, inc_length, inc_length]) fun i hi => ?_
          rw [val_mv _ i (by rw [inc_length, hzl]; exact F.ak) (by rw [inc_length, hzl]; exact hrk), hziv r i hrk, hziv a i F.ak]
          omega
      | succ t iht =>
        intro r' hr'
        have hlt : t < rs.length := by have := (List.getElem?_eq_some_iff.mp hr').1; omega
        have hr : rs[t]? = some rs[t] := List.getElem?_eq_getElem hlt
        generalize rs[t] = r at hr
        obtain ⟨hrk, hra⟩ := F.rk r (List.mem_of_getElem? hr)
        obtain ⟨hrk', hra'⟩ := F.rk r' (List.mem_of_getElem? hr')
        obtain ⟨m, hm, hM⟩ := F.next t r r' hr hr'
        refine reach_step (iht r hr) hm (hM.may.mpr ?_) ?_
        · rw [if_neg hra, hziv r a hrk, hziv r r hrk, hza, if_pos rfl, if_neg hra]
          have := hznn r hrk
          omega
        · rw [hM.behind (by rw [inc_length, hzl]; exact F.ak) (by rw [inc_length, hzl]; exact hrk) (by rw [inc_length, hzl]; exact hrk')]
          refine ext_val (by rw [mv_len, inc_length, inc_length]) fun i hi => ?_
          rw [val_mv _ i (by rw [inc_length, hzl]; exact hrk) (by rw [inc_length, hzl]; exact hrk'), hziv r' i hrk', hziv r i hrk]
          omega
    obtain ⟨t, ht⟩ := List.mem_iff_getElem?.mp (F.cov j hj hja)
    have := along t j ht
    have e : inc z (j : Int) = x := ext_val (by rw [inc_length, hzl, hl]) fun i hi => by
      rw [hziv j i hj, hzv]; omega
    rw [e] at this; exact this
end Pg

set_option Elab.async false
set_option linter.all false
set_option maxRecDepth 100000
set_option maxHeartbeats 4000000
namespace Pg
open PySem PySem.Spec PyProof.Rows L2 Pf
theorem mem_rg {lo : Int} {n : Nat} {z : Int} : z ∈ rg lo n ↔ lo ≤ z ∧ z < lo + n := by
  constructor
  · intro h
    obtain ⟨i, hi⟩ := List.mem_iff_getElem?.mp h
    obtain ⟨h1, h2⟩ := rg_get hi
    omega
  · rintro ⟨h1, h2⟩
    obtain ⟨i, hi⟩ : ∃ i : Nat, z = lo + i := ⟨(z - lo).toNat, by omega⟩
    subst hi
    exact List.mem_of_getElem? (rg_at (by omega))
theorem nodup_rg : ∀ (n : Nat) (lo : Int), (rg lo n).Nodup
  | 0, _ => List.nodup_nil
  | n + 1, lo => List.nodup_cons.mpr ⟨fun h => by have := (mem_rg.mp h).1; omega, nodup_rg n (lo + 1)⟩
theorem nodup_map {α β : Type} {f : α → β} : ∀ {xs : List α}, xs.Nodup → (∀ x ∈ xs, ∀ y ∈ xs, f x = f y → x = y) → (xs.map f).Nodup
  | [], _, _ => List.nodup_nil
  | x :: xs, h, hi => by
    have h1 := List.nodup_cons.mp h
    rw [List.map_cons]
    refine List.nodup_cons.mpr ⟨fun hm => ?_, nodup_map h1.2 fun y hy z hz => hi y (List.mem_cons_of_mem _ hy) z (List.mem_cons_of_mem _ hz)⟩
    obtain ⟨y, hy, he⟩ := List.mem_map.mp hm
    have := hi y (List.mem_cons_of_mem _ hy) x (List.mem_cons_self ..) he
    exact h1.1 (this ▸ hy)
theorem nodup_flat {α β : Type} {f : α → List β} : ∀ {xs : List α}, xs.Nodup → (∀ x ∈ xs, (f x).Nodup) → (∀ x ∈ xs, ∀ y ∈ xs, ∀ z, z ∈ f x → z ∈ f y → x = y) → (xs.flatMap f).Nodup
  | [], _, _, _ => List.nodup_nil
  | x :: xs, h, hn, hd => by
    have h1 := List.nodup_cons.mp h
    rw [List.flatMap_cons]
    refine List.nodup_append.mpr ⟨hn x (List.mem_cons_self ..), nodup_flat h1.2 (fun y hy => hn y (List.mem_cons_of_mem _ hy)) (fun y hy z hz => hd y (List.mem_cons_of_mem _ hy) z (List.mem_cons_of_mem _ hz)), fun a ha b hb e => ?_⟩
    subst e
    obtain ⟨y, hy, hay⟩ := List.mem_flatMap.mp hb
    have := hd x (List.mem_cons_self ..) y (List.mem_cons_of_mem _ hy) a ha hay
    exact h1.1 (this ▸ hy)
theorem mem_rowsB {h : Int} (h0 : 0 ≤ h) : ∀ (n : Nat) (x : List Int), x ∈ rowsB h n ↔ x.length = n ∧ (∀ z ∈ x, 0 ≤ z) ∧ x.sum ≤ h
  | 0, x => by
    show x ∈ [[]] ↔ _
    rw [List.mem_singleton]
    constructor
    · rintro rfl; exact ⟨rfl, (fun z hz => nomatch hz), by simpa using h0⟩
    · rintro ⟨h1, _⟩; exact List.eq_nil_of_length_eq_zero h1
  | n + 1, x => by
    show x ∈ (rowsB h n).flatMap _ ↔ _
    rw [List.mem_flatMap]
    constructor
    · rintro ⟨r, hr, hm⟩
      obtain ⟨z, hz, rfl⟩ := List.mem_map.mp hm
      obtain ⟨h1, h2, h3⟩ := (mem_rowsB h0 n r).mp hr
      have hz' := mem_rg.mp hz
      refine ⟨by rw [List.length_append, h1]; rfl, fun w hw => ?_, by rw [List.sum_append]; simp; omega⟩
      rcases List.mem_append.mp hw with hw | hw
      · exact h2 w hw
      · rw [List.mem_singleton.mp hw]; omega
    · rintro ⟨h1, h2, h3⟩
      have hne : x ≠ [] := by intro e; rw [e] at h1; cases h1
      have hx := List.dropLast_concat_getLast hne
      generalize x.dropLast = r at hx
      generalize x.getLast hne = z at hx
      subst hx
      rw [List.length_append] at h1
      have h1' : r.length = n := by simpa using h1
      rw [List.sum_append] at h3
      have hz := h2 z (by simp)
      have h3' : r.sum + z ≤ h := by simpa using h3
      have hr2 : ∀ w ∈ r, 0 ≤ w := fun w hw => h2 w (List.mem_append_left _ hw)
      refine ⟨r, (mem_rowsB h0 n r).mpr ⟨h1', hr2, by omega⟩, List.mem_map.mpr ⟨z, mem_rg.mpr ⟨hz, by omega⟩, rfl⟩⟩
theorem nodup_rowsB (h : Int) : ∀ n : Nat, (rowsB h n).Nodup
  | 0 => by show ([[]] : List (List Int)).Nodup; simp
  | n + 1 => nodup_flat (nodup_rowsB h n) (fun r _ => nodup_map (nodup_rg _ _) fun x _ y _ e => by
      have := List.append_cancel_left e
      injection this) fun r _ r' _ z hz hz' => by
      obtain ⟨w, _, rfl⟩ := List.mem_map.mp hz
      obtain ⟨w', _, e⟩ := List.mem_map.mp hz'
      exact (List.append_inj_left' e rfl).symm
theorem mem_beginB {h : Int} (h0 : 0 ≤ h) {k : Nat} (hk : 1 ≤ k) (x : List Int) : x ∈ beginB k h ↔ x.length = k ∧ (∀ z ∈ x, 0 ≤ z) ∧ x.sum = h := by
  unfold beginB
  rw [List.mem_map]
  constructor
  · rintro ⟨r, hr, rfl⟩
    obtain ⟨h1, h2, h3⟩ := (mem_rowsB h0 _ r).mp hr
    refine ⟨by rw [List.length_append, h1]; show k - 1 + 1 = k; omega, fun w hw => ?_, by rw [List.sum_append]; simp; omega⟩
    rcases List.mem_append.mp hw with hw | hw
    · exact h2 w hw
    · rw [List.mem_singleton.mp hw]; omega
  · rintro ⟨h1, h2, h3⟩
    have hne : x ≠ [] := by intro e; rw [e] at h1; have : (0 : Nat) = k := h1; omega
    have hx := List.dropLast_concat_getLast hne
    generalize x.dropLast = r at hx
    generalize x.getLast hne = z at hx
    subst hx
    rw [List.length_append] at h1
    have h1' : r.length + 1 = k := h1
    rw [List.sum_append] at h3
    have hz := h2 z (by simp)
    have h3' : r.sum + z = h := by simpa using h3
    refine ⟨r, (mem_rowsB h0 _ r).mpr ⟨by omega, fun w hw => h2 w (List.mem_append_left _ hw), by omega⟩, ?_⟩
    congr 2; omega
theorem nodup_beginB (h : Int) (k : Nat) : (beginB k h).Nodup := nodup_map (nodup_rowsB h _) fun x _ y _ e => List.append_inj_left' e rfl
/-- all that come, told -/
def listS (k a : Nat) (n : Int) : List (List Int) := (beginB k (n - 1)).map fun x => inc x (a : Int)
theorem mem_val {x : List Int} : (∀ z ∈ x, 0 ≤ z) ↔ ∀ j, j < x.length → 0 ≤ x.getD j 0 := by
  constructor
  · intro h j hj
    rw [List.getD_eq_getElem?_getD, List.getElem?_eq_getElem hj]
    exact h _ (List.getElem_mem hj)
  · intro h z hz
    obtain ⟨j, hj, rfl⟩ := List.mem_iff_getElem.mp hz
    have := h j hj
    rw [List.getD_eq_getElem?_getD, List.getElem?_eq_getElem hj] at this
    exact this
theorem mem_listS {k a : Nat} {n : Int} (hn : 1 ≤ n) (ha : a < k) (x : List Int) : x ∈ listS k a n ↔ Sx k a n x := by
  unfold listS
  rw [List.mem_map]
  constructor
  · rintro ⟨y, hy, rfl⟩
    obtain ⟨h1, h2, h3⟩ := (mem_beginB (by omega) (by omega) y).mp hy
    have h2 := mem_val.mp h2
    refine ⟨by rw [inc_length, h1], fun j hj => ?_, ?_, by rw [sum_inc _ _ (by omega), h3]; omega⟩
    · rw [val_inc _ _ _ (by omega)]
      have := h2 j (by omega)
      split <;> omega
    · rw [val_inc _ _ _ (by omega), if_pos rfl]
      have := h2 a (by omega)
      omega
  · intro h
    have hl := h.len
    refine ⟨dec x (a : Int), (mem_beginB (by omega) (by omega) _).mpr ⟨by rw [dec_length, hl], mem_val.mpr fun j hj => ?_, by rw [sum_dec _ _ (by omega), h.sum]⟩, ext_val (by rw [inc_length, dec_length]) fun j hj => ?_⟩
    · rw [dec_length, hl] at hj
      rw [val_dec _ _ _ (by omega)]
      have h1 := h.nn j hj
      have h2 := h.one
      by_cases e : a = j
      · subst e; rw [if_pos rfl]; omega
      · rw [if_neg e]; omega
    · rw [val_inc _ _ _ (by rw [dec_length]; omega), val_dec _ _ _ (by omega)]; omega
theorem nodup_listS {k a : Nat} {n : Int} (hn : 1 ≤ n) (ha : a < k) : (listS k a n).Nodup := nodup_map (nodup_beginB _ _) fun x hx y hy e => by
  have h1 := ((mem_beginB (by omega) (by omega) x).mp hx).1
  have h2 := ((mem_beginB (by omega) (by omega) y).mp hy).1
  refine ext_val (by rw [h1, h2]) fun j hj => ?_
  have h3 := congrArg (fun z => z.getD j 0) e
  simp only [val_inc x a j (by omega), val_inc y a j (by omega)] at h3
  omega
theorem Sx.c0 {k a : Nat} {n : Int} {c : List Int} (hn : 1 ≤ n) (ha : a < k) (hcl : c.length = k) (hcv : ∀ j, j < k → c.getD j 0 = if j = a then n else 0) : Sx k a n c := by
  refine ⟨hcl, fun j hj => by rw [hcv j hj]; split <;> omega, by rw [hcv a ha, if_pos rfl]; omega, ?_⟩
  have h1 := sum_set c a 0 (by omega)
  have h2 : (c.set a 0).sum = 0 := sum_zero fun j hj => by
    rw [List.length_set, hcl] at hj
    rw [getD_set _ _ _ _ (by omega)]
    by_cases e : a = j
    · rw [if_pos e]
    · rw [if_neg e, hcv j hj, if_neg (Ne.symm e)]
  rw [hcv a ha, if_pos rfl] at h1
  omega
theorem Fam.reachS {ρ : Rule} {k a : Nat} {rs : List Nat} (F : Fam ρ k a rs) {n : Int} {c : List Int} (hn : 1 ≤ n) (hcl : c.length = k) (hcv : ∀ j, j < k → c.getD j 0 = if j = a then n else 0) (x : List Int) : Reach ρ c x ↔ Sx k a n x := by
  constructor
  · intro h
    induction h with
    | refl => exact Sx.c0 hn F.ak hcl hcv
    | step _ hb ih => exact ih.step F hb
  · intro h; exact F.reach hcl hcv _ x h rfl
theorem Fam.comes {ρ : Rule} {k a : Nat} {rs : List Nat} (F : Fam ρ k a rs) {n : Int} {c : List Int} (hn : 1 ≤ n) (hcl : c.length = k) (hcv : ∀ j, j < k → c.getD j 0 = if j = a then n else 0) : Comes ρ c (listS k a n) :=
  ⟨nodup_listS hn F.ak, fun x => by rw [mem_listS hn F.ak, F.reachS hn hcl hcv]⟩
theorem len3 : ∀ n : Fin 46, 1 ≤ n.val → (beginB 3 ((n.val : Int) - 1)).length = n.val * (n.val + 1) / 2 := by decide +kernel
theorem len9 : (beginB 9 0).length = 1 ∧ (beginB 9 1).length = 9 ∧ (beginB 9 2).length = 45 ∧ (beginB 9 3).length = 165 ∧ (beginB 9 4).length = 495 ∧ (beginB 9 5).length = 1287 := by decide +kernel
end Pg

set_option Elab.async false
set_option linter.all false
set_option maxRecDepth 100000
set_option maxHeartbeats 4000000
namespace Pg
open PySem PySem.Spec PyProof.Rows L2 Pf
structure FamR (ρ : Rule) (k a : Nat) (rs : List Nat) : Prop where
  F : Fam ρ k a rs
  rooms : ρ.rooms = (k : Int)
  starts : ρ.starts = [(a : Int)]
  says : ρ.says.length = k
  k9 : k ≤ 9
  m9 : ρ.meets.length ≤ 9
def c0 (k a : Nat) (h : Int) : List Int := (List.replicate k (0 : Int)).set a h
theorem c0_len (k a : Nat) (h : Int) : (c0 k a h).length = k := by unfold c0; rw [List.length_set, List.length_replicate]
theorem c0_val {k a : Nat} (h : Int) (ha : a < k) (j : Nat) (hj : j < k) : (c0 k a h).getD j 0 = if j = a then h else 0 := by
  unfold c0
  rw [getD_set _ _ _ _ (by rw [List.length_replicate]; exact ha)]
  by_cases e : a = j
  · rw [if_pos e, if_pos e.symm]
  · rw [if_neg e, if_neg (Ne.symm e), List.getD_eq_getElem?_getD, List.getElem?_replicate, if_pos hj]; rfl
theorem FamR.beg {ρ : Rule} {k a : Nat} {rs : List Nat} (R : FamR ρ k a rs) (h : Int) : begF ρ [h] = c0 k a h := by
  show addC (List.replicate ρ.rooms.toNat 0) (ρ.starts.getD (0 : Int).toNat 0) h = _
  rw [R.rooms, R.starts]
  show (List.replicate (k : Int).toNat (0 : Int)).set (a : Int).toNat ((List.replicate (k : Int).toNat (0 : Int)).getD (a : Int).toNat 0 + h) = _
  rw [Int.toNat_natCast, Int.toNat_natCast]
  have : (List.replicate k (0 : Int)).getD a 0 = 0 := by
    rw [List.getD_eq_getElem?_getD, List.getElem?_replicate, if_pos R.F.ak]; rfl
  rw [this, Int.zero_add]; rfl
theorem FamR.fits {ρ : Rule} {k a : Nat} {rs : List Nat} (R : FamR ρ k a rs) {c : List Int} (hc : c.length = k) : Fits ρ c := by
  have h9 := R.k9
  have m9 := R.m9
  refine ⟨by rw [hc, R.says], fun m hm => ?_, by omega, by omega⟩
  obtain ⟨r, r', h1, h2, _, hM⟩ := R.F.all m hm
  have ha := R.F.ak
  rw [hc]
  rcases hM with rfl | ⟨_, rfl⟩
  · exact ⟨a, r, a, r', rfl, ha, h1, ha, h2⟩
  · exact ⟨r, a, r', a, rfl, h1, ha, h2, ha⟩
theorem FamR.fb {ρ : Rule} {k a : Nat} {rs : List Nat} (R : FamR ρ k a rs) (h : Int) : FitsB ρ [h] := by
  have h9 := R.k9
  have ha := R.F.ak
  refine ⟨by rw [R.rooms]; omega, by rw [R.rooms]; omega, fun x hx => ?_, by rw [R.starts]; rfl⟩
  rw [R.starts] at hx
  exact ⟨a, List.mem_singleton.mp hx, by rw [R.rooms]; omega⟩
theorem FamR.comes {ρ : Rule} {k a : Nat} {rs : List Nat} (R : FamR ρ k a rs) {h : Int} (hh : 1 ≤ h) : Comes ρ (c0 k a h) (listS k a h) := R.F.comes hh (c0_len _ _ _) (c0_val h R.F.ak)
theorem listS_len (k a : Nat) (h : Int) : (listS k a h).length = (beginB k (h - 1)).length := by unfold listS; rw [List.length_map]
theorem FamR.ok {ρ : Rule} {k a : Nat} {rs : List Nat} (R : FamR ρ k a rs) {h : Int} (hh : 1 ≤ h) (lim : Int) : OkG (ρ, c0 k a h, lim) ↔ ((beginB k (h - 1)).length : Int) ≤ lim := by
  rw [← listS_len k a h]
  constructor
  · rintro ⟨S, hS, hl⟩
    rw [comes_len (R.comes hh) hS]; exact hl
  · intro hl; exact ⟨_, R.comes hh, hl⟩
theorem FamR.preG {ρ : Rule} {k a : Nat} {rs : List Nat} (R : FamR ρ k a rs) {h : Int} (hh : 1 ≤ h) (hl : (beginB k (h - 1)).length ≤ 9000) (lim : Int) : PreG (ρ, c0 k a h, lim) :=
  ⟨R.fits (c0_len _ _ _), _, R.comes hh, by rw [listS_len]; omega⟩
theorem FamR.mm {ρ : Rule} {k a : Nat} {rs : List Nat} (R : FamR ρ k a rs) {h : Int} (hh : 1 ≤ h) (hl : (beginB k (h - 1)).length ≤ 9000) (S : List (List Int)) (hS : Comes ρ (c0 k a h) S) : S.length * ρ.meets.length ≤ 90000 := by
  have h1 := comes_len (R.comes hh) hS
  rw [listS_len] at h1
  have := Nat.mul_le_mul (show S.length ≤ 9000 by omega) R.m9
  omega
theorem word_yes {h : Int} (hh : 1 ≤ h) : wordB qM [h] = "yes" := by
  unfold wordB qM holdsB handsB
  have : decide (((([] : List Int).map fun k => [h].getD k.toNat 0).sum) < (([0] : List Int).map fun k => [h].getD k.toNat 0).sum) = true := by
    apply decide_eq_true
    show (0 : Int) < h + 0
    omega
  exact if_pos this
theorem begin1 (h : Int) : beginB 1 h = [[h]] := by
  show [[h - 0]] = _
  rw [Int.sub_zero]
theorem begs1 {ρ : Rule} (h : ρ.starts.length = 1) : ∀ (n : Nat) (lo : Int), begsB ρ lo n = (rg lo n).map fun x => [x]
  | 0, _ => rfl
  | n + 1, lo => by
    have := begs1 h n (lo + 1)
    unfold begsB at this ⊢
    rw [rg, List.flatMap_cons, this, h, begin1]; rfl
theorem FamR.preEo {ρ : Rule} {k a : Nat} {rs : List Nat} (R : FamR ρ k a rs) {most lim : Int} (h0 : 0 ≤ most) (h1 : most ≤ 80000) (hl : ∀ h : Int, 1 ≤ h → h ≤ most → (beginB k (h - 1)).length ≤ 9000) : PreEo 1 ρ qM most lim := by
  have hs : ρ.starts.length = 1 := by rw [R.starts]; rfl
  refine ⟨by omega, h1, fun h hh1 hh2 => ?_, fun h hh1 hh2 c hc => ?_⟩
  · rw [hs]
    refine ⟨by decide, by decide, by omega, by omega, fun i hi => ?_⟩
    have : i = 0 := by
      have : i ≤ ((1 : Nat) : Int).toNat - 1 := hi
      rw [Int.toNat_natCast] at this; omega
    subst this
    show 1 ≤ 90000; decide
  · rw [hs, begin1] at hc
    have := List.mem_singleton.mp hc
    subst this
    have hb := R.beg h
    refine ⟨⟨R.fb h, ?_, ⟨Nat.zero_lt_one, ⟨by decide, fun x hx => ⟨0, by simpa using hx, by show 0 < 1; decide⟩⟩, ⟨by decide, fun x hx => nomatch hx⟩⟩, ?_⟩, ?_⟩
    · show PreG (ρ, begF ρ [h], lim)
      rw [hb]; exact R.preG hh1 (hl h hh1 hh2) lim
    · show ∀ S, Comes ρ (begF ρ [h]) S → _
      rw [hb]; exact R.mm hh1 (hl h hh1 hh2)
    · rw [hb]
      intro e
      have := c0_len k a h
      rw [e] at this
      have hk := R.F.ak
      have : 0 = k := this
      omega
theorem FamR.okE {ρ : Rule} {k a : Nat} {rs : List Nat} (R : FamR ρ k a rs) {h : Int} (hh : 1 ≤ h) (lim : Int) : Pg.okE ρ qM lim [h] ↔ ((beginB k (h - 1)).length : Int) ≤ lim := by
  show OkG (ρ, begF ρ [h], lim) ↔ _
  rw [R.beg, R.ok hh]
/-- where all say yes -/
theorem said_true {ρ : Rule} {x : List Int} (h : ∀ b ∈ ρ.says, b = true) (hl : x.length = ρ.says.length) : saidB ρ x = "yes" := by
  refine if_pos ?_
  rw [Bool.eq_false_iff]
  intro hc
  have hm : false ∈ wordsOf ρ x := List.contains_iff_mem.mp hc
  obtain ⟨p, hp, he⟩ := List.mem_map.mp hm
  obtain ⟨n, h1, h2⟩ := num_at (List.mem_filter.mp hp).1
  have hlt : n < ρ.says.length := by rw [← hl]; exact (List.getElem?_eq_some_iff.mp h2).1
  rw [h1, Int.toNat_natCast, List.getD_eq_getElem?_getD, List.getElem?_eq_getElem hlt] at he
  have := h _ (List.getElem_mem hlt)
  rw [this] at he
  cases he
theorem FamR.good_true {ρ : Rule} {k a : Nat} {rs : List Nat} (R : FamR ρ k a rs) (ht : ∀ b ∈ ρ.says, b = true) {h : Int} (hh : 1 ≤ h) : goodE ρ qM [h] := by
  show AnsP ρ (begF ρ [h]) (wordB qM [h])
  rw [R.beg, word_yes hh]
  intro x hx
  refine ⟨x, .refl, fun z hz => said_true ht ?_⟩
  rw [reach_length hz, reach_length hx, c0_len, R.says]
theorem wide_fam : FamR wideB 9 0 [1, 2, 3, 4, 5, 6, 7, 8] := by
  refine ⟨⟨by decide, fun m hm => ?_, by decide, by decide, ?_, ?_⟩, rfl, rfl, by decide, by decide, by decide⟩
  · have h : m ∈ ([[0, 0, 0, 1], [0, 1, 0, 2], [0, 2, 0, 3], [0, 3, 0, 4], [0, 4, 0, 5], [0, 5, 0, 6], [0, 6, 0, 7], [0, 7, 0, 8], [0, 8, 0, 1]] : List (List Int)) := hm
    simp only [List.mem_cons, List.not_mem_nil, or_false] at h
    rcases h with rfl | rfl | rfl | rfl | rfl | rfl | rfl | rfl | rfl
    · exact ⟨0, 1, by decide, by decide, by decide, Or.inl rfl⟩
    · exact ⟨1, 2, by decide, by decide, by decide, Or.inl rfl⟩
    · exact ⟨2, 3, by decide, by decide, by decide, Or.inl rfl⟩
    · exact ⟨3, 4, by decide, by decide, by decide, Or.inl rfl⟩
    · exact ⟨4, 5, by decide, by decide, by decide, Or.inl rfl⟩
    · exact ⟨5, 6, by decide, by decide, by decide, Or.inl rfl⟩
    · exact ⟨6, 7, by decide, by decide, by decide, Or.inl rfl⟩
    · exact ⟨7, 8, by decide, by decide, by decide, Or.inl rfl⟩
    · exact ⟨8, 1, by decide, by decide, by decide, Or.inl rfl⟩
  · intro r hr
    have : r = 1 := by simpa using hr.symm
    subst this
    exact ⟨[0, 0, 0, 1], by decide, Or.inl rfl⟩
  · intro t r r' h1 h2
    match t, h1, h2 with
    | 0, h1, h2 => cases h1; cases h2; exact ⟨[0, 1, 0, 2], by decide, Or.inl rfl⟩
    | 1, h1, h2 => cases h1; cases h2; exact ⟨[0, 2, 0, 3], by decide, Or.inl rfl⟩
    | 2, h1, h2 => cases h1; cases h2; exact ⟨[0, 3, 0, 4], by decide, Or.inl rfl⟩
    | 3, h1, h2 => cases h1; cases h2; exact ⟨[0, 4, 0, 5], by decide, Or.inl rfl⟩
    | 4, h1, h2 => cases h1; cases h2; exact ⟨[0, 5, 0, 6], by decide, Or.inl rfl⟩
    | 5, h1, h2 => cases h1; cases h2; exact ⟨[0, 6, 0, 7], by decide, Or.inl rfl⟩
    | 6, h1, h2 => cases h1; cases h2; exact ⟨[0, 7, 0, 8], by decide, Or.inl rfl⟩
    | n + 7, h1, h2 => simp at h2
theorem wide_true : ∀ b ∈ wideB.says, b = true := by decide
theorem wide_len : ∀ h : Int, 1 ≤ h → h ≤ 6 → (beginB 9 (h - 1)).length ≤ 9000 := fun h h1 h2 => by
  obtain ⟨a1, a2, a3, a4, a5, a6⟩ := len9
  have : h = 1 ∨ h = 2 ∨ h = 3 ∨ h = 4 ∨ h = 5 ∨ h = 6 := by omega
  rcases this with rfl | rfl | rfl | rfl | rfl | rfl
  · show (beginB 9 0).length ≤ 9000; omega
  · show (beginB 9 1).length ≤ 9000; omega
  · show (beginB 9 2).length ≤ 9000; omega
  · show (beginB 9 3).length ≤ 9000; omega
  · show (beginB 9 4).length ≤ 9000; omega
  · show (beginB 9 5).length ≤ 9000; omega
theorem wide_ok (h : Int) (h1 : 1 ≤ h) (h2 : h ≤ 5) : Pg.okE wideB qM 1000 [h] := by
  rw [wide_fam.okE h1]
  obtain ⟨a1, a2, a3, a4, a5, a6⟩ := len9
  have : h = 1 ∨ h = 2 ∨ h = 3 ∨ h = 4 ∨ h = 5 := by omega
  rcases this with rfl | rfl | rfl | rfl | rfl
  · show ((beginB 9 0).length : Int) ≤ 1000; omega
  · show ((beginB 9 1).length : Int) ≤ 1000; omega
  · show ((beginB 9 2).length : Int) ≤ 1000; omega
  · show ((beginB 9 3).length : Int) ≤ 1000; omega
  · show ((beginB 9 4).length : Int) ≤ 1000; omega
theorem wide5 : PreEo 1 wideB qM 5 1000 ∧ Runs (Pg.okE wideB qM 1000) (goodE wideB qM) (begsB wideB 1 5) .no := by
  refine ⟨wide_fam.preEo (by decide) (by decide) fun h h1 h2 => wide_len h h1 (by omega), ?_⟩
  rw [begs1 rfl]
  show Runs _ _ [[1], [2], [3], [4], [5]] .no
  have g := fun (h : Int) (h1 : 1 ≤ h) => wide_fam.good_true wide_true h1
  exact .go (wide_ok 1 (by decide) (by decide)) (g 1 (by decide)) (.go (wide_ok 2 (by decide) (by decide)) (g 2 (by decide)) (.go (wide_ok 3 (by decide) (by decide)) (g 3 (by decide)) (.go (wide_ok 4 (by decide) (by decide)) (g 4 (by decide)) (.go (wide_ok 5 (by decide) (by decide)) (g 5 (by decide)) .nil))))
theorem wide6 : PreEo 1 wideB qM 6 1000 ∧ Runs (Pg.okE wideB qM 1000) (goodE wideB qM) (begsB wideB 1 6) .over := by
  refine ⟨wide_fam.preEo (by decide) (by decide) wide_len, ?_⟩
  rw [begs1 rfl]
  show Runs _ _ [[1], [2], [3], [4], [5], [6]] .over
  have g := fun (h : Int) (h1 : 1 ≤ h) => wide_fam.good_true wide_true h1
  refine .go (wide_ok 1 (by decide) (by decide)) (g 1 (by decide)) (.go (wide_ok 2 (by decide) (by decide)) (g 2 (by decide)) (.go (wide_ok 3 (by decide) (by decide)) (g 3 (by decide)) (.go (wide_ok 4 (by decide) (by decide)) (g 4 (by decide)) (.go (wide_ok 5 (by decide) (by decide)) (g 5 (by decide)) (.over ?_)))))
  rw [wide_fam.okE (by decide)]
  obtain ⟨a1, a2, a3, a4, a5, a6⟩ := len9
  show ¬ ((beginB 9 5).length : Int) ≤ 1000
  omega
end Pg

set_option Elab.async false
set_option linter.all false
set_option maxRecDepth 100000
set_option maxHeartbeats 4000000
namespace Pg
open PySem PySem.Spec PyProof.Rows L2 Pf
/-- three rooms: a the first, b and c the others -/
structure Tr (a b c : Nat) : Prop where
  a3 : a < 3
  b3 : b < 3
  c3 : c < 3
  ab : a ≠ b
  ac : a ≠ c
  bc : b ≠ c
  cov : ∀ j, j < 3 → j = a ∨ j = b ∨ j = c
theorem ord_tr {f s t : Int} (h : Ord f s t) : ∃ a b c : Nat, f = (a : Int) ∧ s = (b : Int) ∧ t = (c : Int) ∧ Tr a b c := by
  unfold Ord at h
  simp only [List.mem_cons, List.not_mem_nil, or_false] at h
  have mk : ∀ a b c : Nat, [f, s, t] = [(a : Int), (b : Int), (c : Int)] → Tr a b c → ∃ a b c : Nat, f = (a : Int) ∧ s = (b : Int) ∧ t = (c : Int) ∧ Tr a b c := fun a b c he hT => by
    injection he with h1 h2; injection h2 with h2 h3; injection h3 with h3 _
    exact ⟨a, b, c, h1, h2, h3, hT⟩
  rcases h with h | h | h | h
  · exact mk 0 1 2 h ⟨by decide, by decide, by decide, by decide, by decide, by decide, fun j hj => by omega⟩
  · exact mk 0 2 1 h ⟨by decide, by decide, by decide, by decide, by decide, by decide, fun j hj => by omega⟩
  · exact mk 1 0 2 h ⟨by decide, by decide, by decide, by decide, by decide, by decide, fun j hj => by omega⟩
  · exact mk 2 0 1 h ⟨by decide, by decide, by decide, by decide, by decide, by decide, fun j hj => by omega⟩
/-- the meetings of such a rule -/
structure Rd3 (ρ : Rule) (a b c : Nat) : Prop where
  T : Tr a b c
  rooms : ρ.rooms = 3
  starts : ρ.starts = [(a : Int)]
  says : ρ.says.length = 3
  len : ρ.meets.length = 3
  ms : ∃ m1 m2 m3, (∀ m, m ∈ ρ.meets ↔ m = m1 ∨ m = m2 ∨ m = m3) ∧ Mt a a b m1 ∧ Mt a b c m2 ∧ Mt a c b m3
theorem rd_of {f s t : Int} {ρ : Rule} {a b c : Nat} (hT : Tr a b c) (hf : f = (a : Int)) (hs : s = (b : Int)) (ht : t = (c : Int)) (R : RoundP f s t ρ) : Rd3 ρ a b c := by
  subst hf; subst hs; subst ht
  obtain ⟨m2, m3, h1, h2, h3⟩ := R.ms
  refine ⟨hT, R.rooms, R.starts, by rw [R.says]; rfl, R.len, _, m2, m3, h1, Or.inl rfl, ?_, ?_⟩
  · exact h2.elim Or.inl fun h => Or.inr ⟨Ne.symm hT.ab, h⟩
  · exact h3.elim Or.inl fun h => Or.inr ⟨Ne.symm hT.ac, h⟩
theorem sure_rd {ρ : Rule} {a b c : Nat} (R : Rd3 ρ a b c) : Rd3 (sureB ρ) a b c := ⟨R.T, R.rooms, R.starts, rfl, R.len, R.ms⟩
theorem Rd3.fam {ρ : Rule} {a b c : Nat} (R : Rd3 ρ a b c) : FamR ρ 3 a [b, c] := by
  obtain ⟨m1, m2, m3, hm, h1, h2, h3⟩ := R.ms
  have T := R.T
  refine ⟨⟨T.a3, fun m hmm => ?_, fun r hr => ?_, fun j hj hja => ?_, fun r hr => ?_, fun t r r' hr hr' => ?_⟩, R.rooms, R.starts, R.says, by decide, by rw [R.len]; decide⟩
  · rcases (hm m).mp hmm with rfl | rfl | rfl
    · exact ⟨a, b, T.a3, T.b3, Ne.symm T.ab, h1⟩
    · exact ⟨b, c, T.b3, T.c3, Ne.symm T.ac, h2⟩
    · exact ⟨c, b, T.c3, T.b3, Ne.symm T.ab, h3⟩
  · simp only [List.mem_cons, List.not_mem_nil, or_false] at hr
    rcases hr with rfl | rfl
    · exact ⟨T.b3, Ne.symm T.ab⟩
    · exact ⟨T.c3, Ne.symm T.ac⟩
  · rcases T.cov j hj with h | h | h
    · exact absurd h hja
    · simp [h]
    · simp [h]
  · have : r = b := by simpa using hr.symm
    subst this
    exact ⟨m1, (hm _).mpr (Or.inl rfl), h1⟩
  · match t, hr, hr' with
    | 0, hr, hr' =>
      have e1 : b = r := by simpa using hr
      have e2 : c = r' := by simpa using hr'
      subst e1; subst e2
      exact ⟨m2, (hm _).mpr (Or.inr (Or.inl rfl)), h2⟩
    | t + 1, _, hr' => simp at hr'
theorem sum3 {x : List Int} {a b c : Nat} (T : Tr a b c) (hl : x.length = 3) : x.sum = x.getD a 0 + x.getD b 0 + x.getD c 0 := by
  match x, hl with
  | [p, q, r], _ =>
    obtain ⟨ha, hb, hc, hab, hac, hbc, _⟩ := T
    have hs : [p, q, r].sum = p + q + r := by simp; omega
    rw [hs]
    have ea : a = 0 ∨ a = 1 ∨ a = 2 := by omega
    have eb : b = 0 ∨ b = 1 ∨ b = 2 := by omega
    have ec : c = 0 ∨ c = 1 ∨ c = 2 := by omega
    rcases ea with rfl | rfl | rfl <;> rcases eb with rfl | rfl | rfl <;> rcases ec with rfl | rfl | rfl <;> first | exact absurd rfl hab | exact absurd rfl hac | exact absurd rfl hbc | (simp; try omega)
theorem cr0_c0 {a : Nat} (ha : a < 3) (n : Int) : cr0 n (a : Int) = c0 3 a n := by
  refine ext_val (by rw [c0_len]; rfl) fun j hj => ?_
  have hj : j < 3 := hj
  rw [c0_val n ha j hj]
  have ej : j = 0 ∨ j = 1 ∨ j = 2 := by omega
  rcases ej with rfl | rfl | rfl
  · show n * (if decide ((0 : Int) = (a : Int)) then 1 else 0) = _
    by_cases e : 0 = a
    · rw [if_pos e, if_pos (decide_eq_true (by omega))]; omega
    · rw [if_neg e, if_neg (by rw [decide_eq_true_eq]; omega)]; omega
  · show n * (if decide ((0 + 1 : Int) = (a : Int)) then 1 else 0) = _
    by_cases e : 1 = a
    · rw [if_pos e, if_pos (decide_eq_true (by omega))]; omega
    · rw [if_neg e, if_neg (by rw [decide_eq_true_eq]; omega)]; omega
  · show n * (if decide ((0 + 1 + 1 : Int) = (a : Int)) then 1 else 0) = _
    by_cases e : 2 = a
    · rw [if_pos e, if_pos (decide_eq_true (by omega))]; omega
    · rw [if_neg e, if_neg (by rw [decide_eq_true_eq]; omega)]; omega
theorem len3i (n : Int) (h1 : 1 ≤ n) (h2 : n ≤ 45) : ((beginB 3 (n - 1)).length : Int) = n * (n + 1) / 2 := by
  obtain ⟨m, rfl⟩ : ∃ m : Nat, n = (m : Int) := ⟨n.toNat, by omega⟩
  have := len3 ⟨m, by omega⟩ (by show 1 ≤ m; omega)
  have e : (beginB 3 ((m : Int) - 1)).length = m * (m + 1) / 2 := this
  rw [e]
  have e2 : ((m * (m + 1) / 2 : Nat) : Int) = (m : Int) * ((m : Int) + 1) / 2 := by
    rw [Int.natCast_ediv, Int.natCast_mul, Int.natCast_add]; rfl
  exact e2
theorem len3s (n : Int) (h1 : 1 ≤ n) (h2 : n ≤ 45) : (beginB 3 (n - 1)).length ≤ 1035 := by
  have h := len3i n h1 h2
  have h3 : n * (n + 1) ≤ 45 * 46 := Int.mul_le_mul (by omega) (by omega) (by omega) (by decide)
  omega
/-- one hand stays in the first room: who is in the others goes about -/
theorem Rd3.go {ρ : Rule} {a b c : Nat} {n : Int} {m : List Int} (hab : a ≠ b) (hac : a ≠ c) (hbc : b ≠ c) (hb : b < 3) (hc : c < 3) (ha : a < 3) (hm : m ∈ ρ.meets) (hM : Mt a b c m) : ∀ (d : Nat) (x : List Int), Sx 3 a n x → x.getD a 0 = 1 → (d : Int) ≤ x.getD b 0 → ∃ y, Sx 3 a n y ∧ y.getD a 0 = 1 ∧ y.getD b 0 = x.getD b 0 - d ∧ Reach ρ x y := by
  intro d
  induction d with
  | zero => intro x hx h1 _; exact ⟨x, hx, h1, by simp, .refl⟩
  | succ d ih =>
    intro x hx h1 hd
    obtain ⟨y, hy, hy1, hyb, hr⟩ := ih x hx h1 (by omega)
    have hl := hy.len
    have hv := fun j => val_mv y (r := b) (r' := c) j (by omega) (by omega)
    refine ⟨mv y b c, ⟨by rw [mv_len, hl], fun j hj => ?_, ?_, by rw [sum_mv y (by omega) (by omega), hy.sum]⟩, ?_, ?_, ?_⟩
    · rw [hv]
      have := hy.nn j hj
      by_cases e : b = j
      · subst e; rw [if_pos rfl]; split <;> omega
      · rw [if_neg e]; split <;> omega
    · rw [hv, if_neg (Ne.symm hab), if_neg (Ne.symm hac)]; omega
    · rw [hv, if_neg (Ne.symm hab), if_neg (Ne.symm hac)]; omega
    · rw [hv, if_pos rfl, if_neg (Ne.symm hbc)]; omega
    · refine reach_step hr hm (hM.may.mpr ?_) (hM.behind (by omega) (by omega) (by omega)).symm
      rw [if_neg (Ne.symm hab)]
      exact ⟨by omega, by omega⟩
theorem Rd3.round {ρ : Rule} {a b c : Nat} (R : Rd3 ρ a b c) {n : Int} {x y : List Int} (hx : Sx 3 a n x) (hx1 : x.getD a 0 = 1) (hy : Sx 3 a n y) (hy1 : y.getD a 0 = 1) : Reach ρ x y := by
  obtain ⟨m1, m2, m3, hm, h1, h2, h3⟩ := R.ms
  have T := R.T
  have eq : ∀ {z : List Int}, Sx 3 a n z → z.getD a 0 = 1 → z.getD b 0 = y.getD b 0 → z = y := fun {z} hz hz1 hzb => by
    have s1 := sum3 T hz.len
    have s2 := sum3 T hy.len
    rw [hz.sum] at s1
    rw [hy.sum] at s2
    refine ext_val (by rw [hz.len, hy.len]) fun j hj => ?_
    rw [hz.len] at hj
    rcases T.cov j hj with rfl | rfl | rfl
    · omega
    · exact hzb
    · omega
  have s1 := sum3 T hx.len
  have s2 := sum3 T hy.len
  rw [hx.sum] at s1
  rw [hy.sum] at s2
  have n1 := hx.nn b T.b3
  have n2 := hy.nn b T.b3
  have n3 := hx.nn c T.c3
  have n4 := hy.nn c T.c3
  by_cases hle : y.getD b 0 ≤ x.getD b 0
  · obtain ⟨z, hz, hz1, hzb, hr⟩ := Rd3.go T.ab T.ac T.bc T.b3 T.c3 T.a3 ((hm m2).mpr (Or.inr (Or.inl rfl))) h2 (x.getD b 0 - y.getD b 0).toNat x hx hx1 (by omega)
    have := eq hz hz1 (by omega)
    rw [← this]; exact hr
  · obtain ⟨z, hz, hz1, hzc, hr⟩ := Rd3.go T.ac T.ab (Ne.symm T.bc) T.c3 T.b3 T.a3 ((hm m3).mpr (Or.inr (Or.inr rfl))) h3 (x.getD c 0 - y.getD c 0).toNat x hx hx1 (by omega)
    have s3 := sum3 T hz.len
    rw [hz.sum] at s3
    have := eq hz hz1 (by omega)
    rw [← this]; exact hr
theorem endOne_sx {a : Nat} (ha : a < 3) {n many : Int} (h0 : 0 ≤ many) (h1 : many < n) : Sx 3 a n (endOne a n many) ∧ (endOne a n many).getD a 0 = 1 := by
  have e : a = 0 ∨ a = 1 ∨ a = 2 := by omega
  rcases e with rfl | rfl | rfl
  · have hv : endOne 0 n many = [1, many, n - 1 - many] := rfl
    rw [hv]
    refine ⟨⟨rfl, fun j hj => ?_, by simp, by simp; omega⟩, rfl⟩
    have ej : j = 0 ∨ j = 1 ∨ j = 2 := by omega
    rcases ej with rfl | rfl | rfl <;> simp <;> omega
  · have hv : endOne 1 n many = [many, 1, n - 1 - many] := rfl
    rw [hv]
    refine ⟨⟨rfl, fun j hj => ?_, by simp, by simp; omega⟩, rfl⟩
    have ej : j = 0 ∨ j = 1 ∨ j = 2 := by omega
    rcases ej with rfl | rfl | rfl <;> simp <;> omega
  · have hv : endOne 2 n many = [many, n - 1 - many, 1] := rfl
    rw [hv]
    refine ⟨⟨rfl, fun j hj => ?_, by simp, by simp; omega⟩, rfl⟩
    have ej : j = 0 ∨ j = 1 ∨ j = 2 := by omega
    rcases ej with rfl | rfl | rfl <;> simp <;> omega
theorem endB_nodup {a : Nat} (ha : a < 3) (n : Int) : (endB a n).Nodup := nodup_map (nodup_rg _ _) fun x _ y _ e => by
  have ea : a = 0 ∨ a = 1 ∨ a = 2 := by omega
  rcases ea with rfl | rfl | rfl
  · have : [1, x, n - 1 - x] = [1, y, n - 1 - y] := e
    injection this with _ h; injection h with h _
  · have : [x, 1, n - 1 - x] = [y, 1, n - 1 - y] := e
    injection this with h _
  · have : [x, n - 1 - x, 1] = [y, n - 1 - y, 1] := e
    injection this with h _
theorem Rd3.preA {ρ : Rule} {a b c : Nat} (R : Rd3 ρ a b c) {n : Int} (h1 : 1 ≤ n) (h2 : n ≤ 45) : PreA ρ (c0 3 a n) := by
  have F := R.fam
  have ha := R.T.a3
  have hs : (c0 3 a n).sum = n := (Sx.c0 h1 ha (c0_len _ _ _) (c0_val n ha)).sum
  have hl := len3s n h1 h2
  have hl9 : (beginB 3 (n - 1)).length ≤ 9000 := by omega
  have hcm := F.comes h1
  have hrs := fun x => F.F.reachS h1 (c0_len 3 a n) (c0_val n ha) x
  refine ⟨F.fits (c0_len _ _ _), ⟨_, hcm, by rw [listS_len]; omega⟩, fun e => ?_, by rw [hs]; exact F.fb n, by rw [hs]; exact F.beg n, F.mm h1 hl9, ⟨a, R.starts, ha⟩, by rw [hs]; omega, fun g hg lim => ?_⟩
  · have := c0_len 3 a n
    rw [e] at this; cases this
  · have hg2 : (a : Int) = (g : Int) := List.singleton_inj.mp (R.starts.symm.trans hg)
    have hg3 : a = g := by omega
    subst hg3
    rw [hs]
    have hen : ∀ x ∈ sortC (endB a n), Sx 3 a n x ∧ x.getD a 0 = 1 := fun x hx => by
      obtain ⟨many, hm, rfl⟩ := List.mem_map.mp (mem_sortC.mp hx)
      obtain ⟨m1, m2⟩ := mem_rg.mp hm
      exact endOne_sx ha m1 (by omega)
    have hlen : (sortC (endB a n)).length = n.toNat := by rw [length_sortC]; unfold endB; rw [List.length_map, rg_length]
    refine ⟨⟨F.fits (c0_len _ _ _), _, hcm, by rw [listS_len]; omega⟩, (sortC_perm _).nodup_iff.mpr (endB_nodup ha n), fun e => ?_, fun x hx => (hrs x).mpr (hen x hx).1, fun x hx y hy => R.round (hen x hx).1 (hen x hx).2 (hen y hy).1 (hen y hy).2, fun S hS => ?_⟩
    · have e : sortC (endB a n) = [] := e
      rw [e] at hlen
      have : 0 = n.toNat := hlen
      omega
    · show ((sortC (endB a n)).length + 1) * S.length ≤ 90000
      have h3 := comes_len hcm hS
      rw [listS_len] at h3
      rw [hlen]
      have := Nat.mul_le_mul (show n.toNat + 1 ≤ 46 by omega) (show S.length ≤ 1035 by omega)
      omega
end Pg

set_option Elab.async false
set_option linter.all false
set_option maxRecDepth 100000
set_option maxHeartbeats 4000000
namespace Pg
open PySem PySem.Spec PyProof.Rows L2 Pf
/-- some hand is where it says no -/
theorem said_no {ρ : Rule} {x : List Int} {j : Nat} (hj : j < x.length) (hp : 0 < x.getD j 0) (hs : ρ.says.getD j false = false) : saidB ρ x ≠ "yes" := by
  have hm : (wordsOf ρ x).contains false = true := by
    rw [List.contains_iff_mem]
    unfold wordsOf
    have hx : x[j]? = some x[j] := List.getElem?_eq_getElem hj
    have hin : ∀ (xs : List Int) (k : Int) (i : Nat) (m : Int), xs[i]? = some m → (k + (i : Int), m) ∈ num k xs := by
      intro xs
      induction xs with
      | nil => intro k i m h; simp at h
      | cons a r ih =>
        intro k i m h
        cases i with
        | zero => simp at h; subst h; simp [num]
        | succ i =>
          have := ih (k + 1) i m (by simpa using h)
          refine List.mem_cons_of_mem _ ?_
          have e : k + ((i + 1 : Nat) : Int) = k + 1 + (i : Int) := by omega
          rw [e]; exact this
    have h1 := hin x 0 j _ hx
    rw [Int.zero_add] at h1
    have hp' : 0 < x[j] := by rw [List.getD_eq_getElem?_getD, hx] at hp; exact hp
    refine List.mem_map.mpr ⟨((j : Int), x[j]), List.mem_filter.mpr ⟨h1, decide_eq_true hp'⟩, ?_⟩
    show ρ.says.getD (j : Int).toNat false = false
    rw [Int.toNat_natCast]; exact hs
  unfold saidB
  rw [if_neg (by rw [hm]; decide)]
  split <;> decide
theorem mono_a {ρ : Rule} {k a : Nat} {rs : List Nat} (F : Fam ρ k a rs) {x y : List Int} (hl : x.length = k) (h : Reach ρ x y) : y.getD a 0 ≤ x.getD a 0 := by
  induction h with
  | refl => exact Int.le_refl _
  | @step z b hz hb ih =>
    have hzl : z.length = k := by rw [reach_length hz, hl]
    obtain ⟨m, hm, hmay, he⟩ := mem_stepsB.mp ⟨b, hb, rfl⟩
    obtain ⟨r, r', hr, hr', hra, hM⟩ := F.all m hm
    rw [he, hM.behind (by rw [hzl]; exact F.ak) (by omega) (by omega), val_mv z a (by omega) (by omega), if_neg hra]
    split <;> omega
theorem says_at {f s t : Int} {ρ : Rule} (R : RoundP f s t ρ) (j : Nat) (hj : j < 3) : ρ.says.getD j false = decide ((j : Int) = f) := by
  rw [R.says]
  have ej : j = 0 ∨ j = 1 ∨ j = 2 := by omega
  rcases ej with rfl | rfl | rfl <;> rfl
theorem said_c0 {f s t : Int} {ρ : Rule} {a : Nat} (R : RoundP f s t ρ) (hf : f = (a : Int)) (ha : a < 3) : saidB ρ (c0 3 a 1) = "yes" := by
  subst hf
  refine if_pos ?_
  rw [Bool.eq_false_iff]
  intro hc
  have hm : false ∈ wordsOf ρ (c0 3 a 1) := List.contains_iff_mem.mp hc
  obtain ⟨p, hp, he⟩ := List.mem_map.mp hm
  obtain ⟨h0, h00⟩ := List.mem_filter.mp hp
  obtain ⟨n, h1, h2⟩ := num_at h0
  have hlt : n < 3 := by
    have := (List.getElem?_eq_some_iff.mp h2).1
    rw [c0_len] at this; exact this
  have hv := c0_val 1 ha n hlt
  rw [List.getD_eq_getElem?_getD, h2] at hv
  have hv : p.2 = if n = a then 1 else 0 := hv
  have hp0 : 0 < p.2 := of_decide_eq_true h00
  rw [h1, Int.toNat_natCast, says_at R n hlt] at he
  have hne : n ≠ a := fun e => by
    have : ¬ ((n : Int) = (a : Int)) := of_decide_eq_false he
    exact this (by rw [e])
  rw [if_neg hne] at hv
  omega
theorem one_only {a : Nat} (ha : a < 3) {z : List Int} (h : Sx 3 a 1 z) : z = c0 3 a 1 := by
  have hle := val_le (c := z) (fun j hj => h.nn j (by rw [← h.len]; exact hj)) (i := a) (by rw [h.len]; exact ha)
  have h1 := h.one
  rw [h.sum] at hle
  have hs := sum_set z a 0 (by rw [h.len]; exact ha)
  refine ext_val (by rw [h.len, c0_len]) fun j hj => ?_
  rw [h.len] at hj
  rw [c0_val 1 ha j hj]
  by_cases e : j = a
  · subst e; rw [if_pos rfl]; omega
  · rw [if_neg e]
    have hnn : ∀ i, i < (z.set a 0).length → 0 ≤ (z.set a 0).getD i 0 := fun i hi => by
      rw [getD_set _ _ _ _ (by rw [h.len]; exact ha)]
      by_cases e' : a = i
      · rw [if_pos e']; exact Int.le_refl _
      · rw [if_neg e']; exact h.nn i (by rw [List.length_set, h.len] at hi; exact hi)
    have h2 := val_le hnn (i := j) (by rw [List.length_set, h.len]; exact hj)
    rw [getD_set _ _ _ _ (by rw [h.len]; exact ha), if_neg (Ne.symm e), hs, h.sum] at h2
    have := h.nn j hj
    omega
theorem okE3 {ρ : Rule} {a b c : Nat} (R : Rd3 ρ a b c) {h : Int} (h1 : 1 ≤ h) (h2 : h ≤ 45) (lim : Int) : Pg.okE ρ qM lim [h] ↔ h * (h + 1) / 2 ≤ lim := by
  rw [R.fam.okE h1, len3i h h1 h2]
theorem preEo3 {ρ : Rule} {a b c : Nat} (R : Rd3 ρ a b c) {most lim : Int} (h0 : 0 ≤ most) (h1 : most ≤ 45) : PreEo 1 ρ qM most lim :=
  R.fam.preEo h0 (by omega) fun h hh1 hh2 => by have := len3s h hh1 (by omega); omega
theorem good1 {f s t : Int} {ρ : Rule} {a b c : Nat} (R : Rd3 ρ a b c) (P : RoundP f s t ρ) (hf : f = (a : Int)) : goodE ρ qM [1] := by
  show AnsP ρ (begF ρ [1]) (wordB qM [1])
  rw [R.fam.beg, word_yes (by decide)]
  intro x hx
  refine ⟨x, .refl, fun z hz => ?_⟩
  have := (R.fam.F.reachS (by decide) (c0_len 3 a 1) (c0_val 1 R.T.a3) z).mp (hx.trans hz)
  rw [one_only R.T.a3 this]
  exact said_c0 P hf R.T.a3
theorem bad2 {f s t : Int} {ρ : Rule} {a b c : Nat} (R : Rd3 ρ a b c) (P : RoundP f s t ρ) (hf : f = (a : Int)) : ¬ goodE ρ qM [2] := by
  intro hg
  have hg : AnsP ρ (begF ρ [2]) (wordB qM [2]) := hg
  rw [R.fam.beg, word_yes (by decide)] at hg
  have T := R.T
  have hrs := fun z => R.fam.F.reachS (by decide) (c0_len 3 a 2) (c0_val 2 T.a3) z
  have hx := (endOne_sx T.a3 (n := 2) (many := 0) (by decide) (by decide))
  obtain ⟨y, hy, hall⟩ := hg _ ((hrs _).mpr hx.1)
  have hsy := (hrs y).mp (((hrs _).mpr hx.1).trans hy)
  have hle := mono_a R.fam.F hx.1.len hy
  rw [hx.2] at hle
  have hs := sum3 T hsy.len
  rw [hsy.sum] at hs
  have hsaid := hall y .refl
  have hb := hsy.nn b T.b3
  have hc := hsy.nn c T.c3
  by_cases hb1 : 0 < y.getD b 0
  · exact said_no (by rw [hsy.len]; exact T.b3) hb1 (by rw [says_at P b T.b3, hf]; exact decide_eq_false (by have := T.ab; omega)) hsaid
  · exact said_no (by rw [hsy.len]; exact T.c3) (j := c) (by omega) (by rw [says_at P c T.c3, hf]; exact decide_eq_false (by have := T.ac; omega)) hsaid
theorem mathOk : MathOk where
  A := fun f s t ρ hO hR n h1 h2 => by
    obtain ⟨a, b, c, hf, hs, ht, T⟩ := ord_tr hO
    have R := rd_of T hf hs ht hR
    rw [hf, cr0_c0 T.a3]
    exact ⟨R.preA (by omega) h2, fun lim => by rw [R.fam.ok (by omega), len3i n (by omega) h2]⟩
  B := fun f s t ρ hO hR => by
    obtain ⟨a, b, c, hf, hs, ht, T⟩ := ord_tr hO
    have R := rd_of T hf hs ht hR
    refine ⟨preEo3 R (by decide) (by decide), ?_⟩
    rw [begs1 (by rw [R.starts]; rfl)]
    show Runs _ _ [[1], [2], [3], [4]] .paper
    exact .go ((okE3 R (by decide) (by decide) 5).mpr (by decide)) (good1 R hR hf) (.err ((okE3 R (by decide) (by decide) 5).mpr (by decide)) (bad2 R hR hf))
  C4 := fun f s t ρ hO hR => by
    obtain ⟨a, b, c, hf, hs, ht, T⟩ := ord_tr hO
    have R := sure_rd (rd_of T hf hs ht hR)
    have ht : ∀ b ∈ (sureB ρ).says, b = true := by
      show ∀ b ∈ ([true, true, true] : List Bool), b = true
      decide
    refine ⟨preEo3 R (by decide) (by decide), ?_⟩
    rw [begs1 (by rw [R.starts]; rfl)]
    show Runs _ _ [[1], [2], [3], [4]] .over
    exact .go ((okE3 R (by decide) (by decide) 5).mpr (by decide)) (R.fam.good_true ht (by decide)) (.go ((okE3 R (by decide) (by decide) 5).mpr (by decide)) (R.fam.good_true ht (by decide)) (.over (fun z => absurd ((okE3 R (by decide) (by decide) 5).mp z) (by decide))))
  C2 := fun f s t ρ hO hR => by
    obtain ⟨a, b, c, hf, hs, ht, T⟩ := ord_tr hO
    have R := sure_rd (rd_of T hf hs ht hR)
    have ht : ∀ b ∈ (sureB ρ).says, b = true := by
      show ∀ b ∈ ([true, true, true] : List Bool), b = true
      decide
    refine ⟨preEo3 R (by decide) (by decide), ?_⟩
    rw [begs1 (by rw [R.starts]; rfl)]
    show Runs _ _ [[1], [2]] .no
    exact .go ((okE3 R (by decide) (by decide) 5).mpr (by decide)) (R.fam.good_true ht (by decide)) (.go ((okE3 R (by decide) (by decide) 5).mpr (by decide)) (R.fam.good_true ht (by decide)) .nil)
  D5 := wide5
  D6 := wide6
end Pg

set_option Elab.async false
set_option linter.all false
set_option maxRecDepth 100000
set_option maxHeartbeats 0
namespace Pg
open PySem PySem.Spec PyProof.Rows L2 Pf
def d_is_whole : He.DefD := ⟨("is_whole", none), "is_whole", "is_whole", defArgs s_is_whole, defBody s_is_whole, defScope s_is_whole, [], []⟩
def d_begun : He.DefD := ⟨("begun", none), "begun", "begun", defArgs s_begun, defBody s_begun, defScope s_begun, [], []⟩
def d_may_be : He.DefD := ⟨("may_be", none), "may_be", "may_be", defArgs s_may_be, defBody s_may_be, defScope s_may_be, [], []⟩
def d_can : He.DefD := ⟨("can", none), "can", "can", defArgs s_can, defBody s_can, defScope s_can, [], []⟩
def d_crowd_behind : He.DefD := ⟨("crowd_behind", none), "crowd_behind", "crowd_behind", defArgs s_crowd_behind, defBody s_crowd_behind, defScope s_crowd_behind, [], []⟩
def d_is_next : He.DefD := ⟨("is_next", none), "is_next", "is_next", defArgs s_is_next, defBody s_is_next, defScope s_is_next, [], []⟩
def d_met : He.DefD := ⟨("met", none), "met", "met", defArgs s_met, defBody s_met, defScope s_met, [], []⟩
def d_said : He.DefD := ⟨("said", none), "said", "said", defArgs s_said, defBody s_said, defScope s_said, [], []⟩
def d_graph_of : He.DefD := ⟨("graph_of", none), "graph_of", "graph_of", defArgs s_graph_of, defBody s_graph_of, defScope s_graph_of, [], []⟩
def d_come : He.DefD := ⟨("come", none), "come", "come", defArgs s_come, defBody s_come, defScope s_come, [.int 1000], []⟩
def d_row_to : He.DefD := ⟨("row_to", none), "row_to", "row_to", defArgs s_row_to, defBody s_row_to, defScope s_row_to, [], []⟩
def d_way_to : He.DefD := ⟨("way_to", none), "way_to", "way_to", defArgs s_way_to, defBody s_way_to, defScope s_way_to, [.int 1000], []⟩
def d_ranks_to : He.DefD := ⟨("ranks_to", none), "ranks_to", "ranks_to", defArgs s_ranks_to, defBody s_ranks_to, defScope s_ranks_to, [], []⟩
def d_hands_of : He.DefD := ⟨("hands_of", none), "hands_of", "hands_of", defArgs s_hands_of, defBody s_hands_of, defScope s_hands_of, [], []⟩
def d_holds : He.DefD := ⟨("holds", none), "holds", "holds", defArgs s_holds, defBody s_holds, defScope s_holds, [], []⟩
def d_settled : He.DefD := ⟨("settled", none), "settled", "settled", defArgs s_settled, defBody s_settled, defScope s_settled, [.int 1000], []⟩
def d_truth_word : He.DefD := ⟨("truth_word", none), "truth_word", "truth_word", defArgs s_truth_word, defBody s_truth_word, defScope s_truth_word, [], []⟩
def d_gone_through : He.DefD := ⟨("gone_through", none), "gone_through", "gone_through", defArgs s_gone_through, defBody s_gone_through, defScope s_gone_through, [], []⟩
def d_answers : He.DefD := ⟨("answers", none), "answers", "answers", defArgs s_answers, defBody s_answers, defScope s_answers, [.int 1000], []⟩
def d_err_at : He.DefD := ⟨("err_at", none), "err_at", "err_at", defArgs s_err_at, defBody s_err_at, defScope s_err_at, [.int 1000], []⟩
def d_beginnings : He.DefD := ⟨("beginnings", none), "beginnings", "beginnings", defArgs s_beginnings, defBody s_beginnings, defScope s_beginnings, [], []⟩
def d_err_of : He.DefD := ⟨("err_of", none), "err_of", "err_of", defArgs s_err_of, defBody s_err_of, defScope s_err_of, [.int 1000], []⟩
def d_last_left : He.DefD := ⟨("last_left", none), "last_left", "last_left", defArgs s_last_left, defBody s_last_left, defScope s_last_left, [], []⟩
def d_rounds_of : He.DefD := ⟨("rounds_of", none), "rounds_of", "rounds_of", defArgs s_rounds_of, defBody s_rounds_of, defScope s_rounds_of, [], []⟩
def d_is_shut : He.DefD := ⟨("is_shut", none), "is_shut", "is_shut", defArgs s_is_shut, defBody s_is_shut, defScope s_is_shut, [], []⟩
def d_ends_of : He.DefD := ⟨("ends_of", none), "ends_of", "ends_of", defArgs s_ends_of, defBody s_ends_of, defScope s_ends_of, [.int 1000], []⟩
def d_ring_to : He.DefD := ⟨("ring_to", none), "ring_to", "ring_to", defArgs s_ring_to, defBody s_ring_to, defScope s_ring_to, [.int 1000], []⟩
def d__law_feed : He.DefD := ⟨("_law_feed", none), "_law_feed", "_law_feed", defArgs s__law_feed, defBody s__law_feed, defScope s__law_feed, [], []⟩
def d__law_draw : He.DefD := ⟨("_law_draw", none), "_law_draw", "_law_draw", defArgs s__law_draw, defBody s__law_draw, defScope s__law_draw, [], []⟩
def d__law_too_many : He.DefD := ⟨("_law_too_many", none), "_law_too_many", "_law_too_many", defArgs s__law_too_many, defBody s__law_too_many, defScope s__law_too_many, [], []⟩
def d__law_round : He.DefD := ⟨("_law_round", none), "_law_round", "_law_round", defArgs s__law_round, defBody s__law_round, defScope s__law_round, [], []⟩
def d__law_end : He.DefD := ⟨("_law_end", none), "_law_end", "_law_end", defArgs s__law_end, defBody s__law_end, defScope s__law_end, [], []⟩
def d__law_wide : He.DefD := ⟨("_law_wide", none), "_law_wide", "_law_wide", defArgs s__law_wide, defBody s__law_wide, defScope s__law_wide, [], []⟩
def d__law_ask : He.DefD := ⟨("_law_ask", none), "_law_ask", "_law_ask", defArgs s__law_ask, defBody s__law_ask, defScope s__law_ask, [], []⟩
def d__law_ask_plain : He.DefD := ⟨("_law_ask_plain", none), "_law_ask_plain", "_law_ask_plain", defArgs s__law_ask_plain, defBody s__law_ask_plain, defScope s__law_ask_plain, [], []⟩
def d__law_told : He.DefD := ⟨("_law_told", none), "_law_told", "_law_told", defArgs s__law_told, defBody s__law_told, defScope s__law_told, [], []⟩
def d__law_ask_first : He.DefD := ⟨("_law_ask_first", none), "_law_ask_first", "_law_ask_first", defArgs s__law_ask_first, defBody s__law_ask_first, defScope s__law_ask_first, [], []⟩
def d_law : He.DefD := ⟨("law", none), "law", "law", defArgs s_law, defBody s_law, defScope s_law, [], []⟩
def fn : List He.DefD := [d_is_whole, d_begun, d_may_be, d_can, d_crowd_behind, d_is_next, d_met, d_said, d_graph_of, d_come, d_row_to, d_way_to, d_ranks_to, d_hands_of, d_holds, d_settled, d_truth_word, d_gone_through, d_answers, d_err_at, d_beginnings, d_err_of, d_last_left, d_rounds_of, d_is_shut, d_ends_of, d_ring_to, d__law_feed, d__law_draw, d__law_too_many, d__law_round, d__law_end, d__law_wide, d__law_ask, d__law_ask_plain, d__law_told, d__law_ask_first, d_law]
def fa : List He.Fa := [.glo "is_whole", .glo "begun", .glo "may_be", .glo "can", .glo "crowd_behind", .glo "is_next", .glo "met", .glo "said", .glo "graph_of", .glo "come", .glo "row_to", .glo "way_to", .glo "ranks_to", .glo "hands_of", .glo "holds", .glo "settled", .glo "truth_word", .glo "gone_through", .glo "answers", .glo "err_at", .glo "beginnings", .glo "err_of", .glo "last_left", .glo "rounds_of", .glo "is_shut", .glo "ends_of", .glo "ring_to", .glo "_law_feed", .glo "_law_draw", .glo "_law_too_many", .glo "_law_round", .glo "_law_end", .glo "_law_wide", .glo "_law_ask", .glo "_law_ask_plain", .glo "_law_told", .glo "_law_ask_first", .glo "law", .glo "PassError", .glo "NoText", .glo "NoMeeting", .glo "NoPaper", .glo "TooMany", .glo "NoLine", .glo "NoRule", .glo "NoCrowd", .free "len", .free "list", .free "tuple", .free "dict", .free "sum", .free "all", .free "max", .free "min", .free "int", .free "bool", .free "range", .free "enumerate", .free "sorted", .free "isinstance", .free "set", .free "repr", .free "str", .free "ValueError", .exc "TooMany", .exm "TooMany" "PassError" true]
def loose0 : List PySem.Str := ["is_whole", "begun", "may_be", "can", "crowd_behind", "is_next", "met", "said", "graph_of", "come", "row_to", "way_to", "ranks_to", "hands_of", "holds"]
def loose1 : List PySem.Str := ["settled", "truth_word", "gone_through", "answers", "err_at", "beginnings", "err_of", "last_left", "rounds_of", "is_shut", "ends_of", "ring_to", "_law_feed", "_law_draw", "_law_too_many"]
def loose2 : List PySem.Str := ["_law_round", "_law_end", "_law_wide", "_law_ask", "_law_ask_plain", "_law_told", "_law_ask_first", "PassError", "NoText", "NoMeeting", "NoPaper", "TooMany", "NoLine", "NoRule", "NoCrowd"]
def loose : List PySem.Str := loose0 ++ loose1 ++ loose2
def exB (K : PySem.W.Frag) : Bool :=
  decide (PySem.W.kitAny K (.ref (He.ga K "TooMany")) [.ref (He.ga K "NoCrowd"), .ref (He.ga K "NoLine"), .ref (He.ga K "NoMeeting"), .ref (He.ga K "NoPaper"), .ref (He.ga K "NoRule"), .ref (He.ga K "NoText")] = some false) && (decide (PySem.W.kitOne K (.ref (He.ga K "TooMany")) (.type "ValueError") = some true) &&
  (He.eqO (PySem.W.findIn K (.ref (He.ga K "TooMany")) "__getattribute__") (some (some (.builtin "BaseException.__getattribute__"))) && (He.eqO (PySem.W.findIn K (.ref (He.ga K "TooMany")) "__getattr__") (some none) &&
  (PySem.W.hasDictIn K (He.ga K "TooMany") && (He.eqO (PySem.W.findIn K (.ref (He.ga K "TooMany")) "__class__") (some (some (.builtin "object.__class__"))) &&
  (He.eqO (PySem.W.specialIn K (.builtin "object.__class__") "__get__") (some (some (.builtin "getset_descriptor.__get__"))) && (decide (PySem.W.takesIn K (.builtin "object.__class__") = some true) && decide (PySem.W.mroIn K (He.ga K "TooMany") (.type "object") = some true))))))))
abbrev R : PySem.W.OpenRow := PySem.W.OpenLaw.row PySem.Challenge.rw_passersby_k47_a_thousand_at_most
abbrev hk : PySem.W.Hook := He.hookX 4 fa fn [] [] exB
def ob (s : PySem.W.SharedT) : He.AlX := He.obsX 4 fa fn [] [] exB (HandSHeadRun.getT s)
theorem ob_eq (s : PySem.W.SharedT) : ob s = hk.obs s.abs := He.obsX_eq (HandSHeadRun.getT_eq s)
theorem run (w : World) : HandSHeadRun.RunEq R (PySem.W.view R.prog [54]) hk ob 4000 loose w := by
  intro os
  kernel_rfl
theorem facts {P : Program} {w : World} {K : PySem.W.Frag} {h : Heap} {mg : Str → Option Value} {f : Addr} (X : K.In h) (G : h.Ns mainGlobals mg) (hfa : mg ("law" : Str) = some (.ref f)) (c : He.SaysX fa fn [] [] exB w h K) :
    ∃ fd : FuncData, (∀ (s : Shared) (v : Value), BindsTo s fd ⟨[v], []⟩ [("_law_script", v)]) ∧ ∀ base : Heap, K.In base → base.Ns mainGlobals mg → FnOk P w K mg base CX0 10 f fd ["_law_script"] (SpLaw K) := by
  have cd := c.t.d
  have cx := c.more
  have glo : ∀ {x : Str}, He.Fa.glo x ∈ fa → mg x = some (.ref (He.ga K x)) := fun hx => He.glo_ok X G (cd.facts hx)
  have fre : ∀ {x : Str}, He.Fa.free x ∈ fa → mg x = none := fun hx => He.free_ok X G (cd.facts hx)
  have B : Bt mg := ⟨fre (by simp [fa]), fre (by simp [fa]), fre (by simp [fa]), fre (by simp [fa]), fre (by simp [fa]), fre (by simp [fa]), fre (by simp [fa]), fre (by simp [fa]), fre (by simp [fa]), fre (by simp [fa]), fre (by simp [fa]), fre (by simp [fa]), fre (by simp [fa]), fre (by simp [fa]), fre (by simp [fa]), fre (by simp [fa]), fre (by simp [fa]), fre (by simp [fa])⟩
  have here : ∀ (d : He.DefD), d ∈ fn → ∃ fd, FunD K d.name d.qual d.params d.body d.scope (d.dvs K) (d.kws K) (He.fAd K d.at_) fd := fun d hd => cd.defs hd
  have h_is_whole : Here K mg s_is_whole "is_whole" [] := by
    obtain ⟨fd, F⟩ := cd.def_ 0 (d := d_is_whole) rfl
    exact ⟨_, fd, F, glo (by simp [fa])⟩
  have h_begun : Here K mg s_begun "begun" [] := by
    obtain ⟨fd, F⟩ := cd.def_ 1 (d := d_begun) rfl
    exact ⟨_, fd, F, glo (by simp [fa])⟩
  have h_may_be : Here K mg s_may_be "may_be" [] := by
    obtain ⟨fd, F⟩ := cd.def_ 2 (d := d_may_be) rfl
    exact ⟨_, fd, F, glo (by simp [fa])⟩
  have h_can : Here K mg s_can "can" [] := by
    obtain ⟨fd, F⟩ := cd.def_ 3 (d := d_can) rfl
    exact ⟨_, fd, F, glo (by simp [fa])⟩
  have h_crowd_behind : Here K mg s_crowd_behind "crowd_behind" [] := by
    obtain ⟨fd, F⟩ := cd.def_ 4 (d := d_crowd_behind) rfl
    exact ⟨_, fd, F, glo (by simp [fa])⟩
  have h_is_next : Here K mg s_is_next "is_next" [] := by
    obtain ⟨fd, F⟩ := cd.def_ 5 (d := d_is_next) rfl
    exact ⟨_, fd, F, glo (by simp [fa])⟩
  have h_met : Here K mg s_met "met" [] := by
    obtain ⟨fd, F⟩ := cd.def_ 6 (d := d_met) rfl
    exact ⟨_, fd, F, glo (by simp [fa])⟩
  have h_said : Here K mg s_said "said" [] := by
    obtain ⟨fd, F⟩ := cd.def_ 7 (d := d_said) rfl
    exact ⟨_, fd, F, glo (by simp [fa])⟩
  have h_graph_of : Here K mg s_graph_of "graph_of" [] := by
    obtain ⟨fd, F⟩ := cd.def_ 8 (d := d_graph_of) rfl
    exact ⟨_, fd, F, glo (by simp [fa])⟩
  have h_come : Here K mg s_come "come" [.int 1000] := by
    obtain ⟨fd, F⟩ := cd.def_ 9 (d := d_come) rfl
    exact ⟨_, fd, F, glo (by simp [fa])⟩
  have h_row_to : Here K mg s_row_to "row_to" [] := by
    obtain ⟨fd, F⟩ := cd.def_ 10 (d := d_row_to) rfl
    exact ⟨_, fd, F, glo (by simp [fa])⟩
  have h_way_to : Here K mg s_way_to "way_to" [.int 1000] := by
    obtain ⟨fd, F⟩ := cd.def_ 11 (d := d_way_to) rfl
    exact ⟨_, fd, F, glo (by simp [fa])⟩
  have h_ranks_to : Here K mg s_ranks_to "ranks_to" [] := by
    obtain ⟨fd, F⟩ := cd.def_ 12 (d := d_ranks_to) rfl
    exact ⟨_, fd, F, glo (by simp [fa])⟩
  have h_hands_of : Here K mg s_hands_of "hands_of" [] := by
    obtain ⟨fd, F⟩ := cd.def_ 13 (d := d_hands_of) rfl
    exact ⟨_, fd, F, glo (by simp [fa])⟩
  have h_holds : Here K mg s_holds "holds" [] := by
    obtain ⟨fd, F⟩ := cd.def_ 14 (d := d_holds) rfl
    exact ⟨_, fd, F, glo (by simp [fa])⟩
  have h_settled : Here K mg s_settled "settled" [.int 1000] := by
    obtain ⟨fd, F⟩ := cd.def_ 15 (d := d_settled) rfl
    exact ⟨_, fd, F, glo (by simp [fa])⟩
  have h_truth_word : Here K mg s_truth_word "truth_word" [] := by
    obtain ⟨fd, F⟩ := cd.def_ 16 (d := d_truth_word) rfl
    exact ⟨_, fd, F, glo (by simp [fa])⟩
  have h_gone_through : Here K mg s_gone_through "gone_through" [] := by
    obtain ⟨fd, F⟩ := cd.def_ 17 (d := d_gone_through) rfl
    exact ⟨_, fd, F, glo (by simp [fa])⟩
  have h_answers : Here K mg s_answers "answers" [.int 1000] := by
    obtain ⟨fd, F⟩ := cd.def_ 18 (d := d_answers) rfl
    exact ⟨_, fd, F, glo (by simp [fa])⟩
  have h_err_at : Here K mg s_err_at "err_at" [.int 1000] := by
    obtain ⟨fd, F⟩ := cd.def_ 19 (d := d_err_at) rfl
    exact ⟨_, fd, F, glo (by simp [fa])⟩
  have h_beginnings : Here K mg s_beginnings "beginnings" [] := by
    obtain ⟨fd, F⟩ := cd.def_ 20 (d := d_beginnings) rfl
    exact ⟨_, fd, F, glo (by simp [fa])⟩
  have h_err_of : Here K mg s_err_of "err_of" [.int 1000] := by
    obtain ⟨fd, F⟩ := cd.def_ 21 (d := d_err_of) rfl
    exact ⟨_, fd, F, glo (by simp [fa])⟩
  have h_last_left : Here K mg s_last_left "last_left" [] := by
    obtain ⟨fd, F⟩ := cd.def_ 22 (d := d_last_left) rfl
    exact ⟨_, fd, F, glo (by simp [fa])⟩
  have h_rounds_of : Here K mg s_rounds_of "rounds_of" [] := by
    obtain ⟨fd, F⟩ := cd.def_ 23 (d := d_rounds_of) rfl
    exact ⟨_, fd, F, glo (by simp [fa])⟩
  have h_is_shut : Here K mg s_is_shut "is_shut" [] := by
    obtain ⟨fd, F⟩ := cd.def_ 24 (d := d_is_shut) rfl
    exact ⟨_, fd, F, glo (by simp [fa])⟩
  have h_ends_of : Here K mg s_ends_of "ends_of" [.int 1000] := by
    obtain ⟨fd, F⟩ := cd.def_ 25 (d := d_ends_of) rfl
    exact ⟨_, fd, F, glo (by simp [fa])⟩
  have h_ring_to : Here K mg s_ring_to "ring_to" [.int 1000] := by
    obtain ⟨fd, F⟩ := cd.def_ 26 (d := d_ring_to) rfl
    exact ⟨_, fd, F, glo (by simp [fa])⟩
  have h__law_feed : Here K mg s__law_feed "_law_feed" [] := by
    obtain ⟨fd, F⟩ := cd.def_ 27 (d := d__law_feed) rfl
    exact ⟨_, fd, F, glo (by simp [fa])⟩
  have h__law_draw : Here K mg s__law_draw "_law_draw" [] := by
    obtain ⟨fd, F⟩ := cd.def_ 28 (d := d__law_draw) rfl
    exact ⟨_, fd, F, glo (by simp [fa])⟩
  have h__law_too_many : Here K mg s__law_too_many "_law_too_many" [] := by
    obtain ⟨fd, F⟩ := cd.def_ 29 (d := d__law_too_many) rfl
    exact ⟨_, fd, F, glo (by simp [fa])⟩
  have h__law_round : Here K mg s__law_round "_law_round" [] := by
    obtain ⟨fd, F⟩ := cd.def_ 30 (d := d__law_round) rfl
    exact ⟨_, fd, F, glo (by simp [fa])⟩
  have h__law_end : Here K mg s__law_end "_law_end" [] := by
    obtain ⟨fd, F⟩ := cd.def_ 31 (d := d__law_end) rfl
    exact ⟨_, fd, F, glo (by simp [fa])⟩
  have h__law_wide : Here K mg s__law_wide "_law_wide" [] := by
    obtain ⟨fd, F⟩ := cd.def_ 32 (d := d__law_wide) rfl
    exact ⟨_, fd, F, glo (by simp [fa])⟩
  have h__law_ask : Here K mg s__law_ask "_law_ask" [] := by
    obtain ⟨fd, F⟩ := cd.def_ 33 (d := d__law_ask) rfl
    exact ⟨_, fd, F, glo (by simp [fa])⟩
  have h__law_ask_plain : Here K mg s__law_ask_plain "_law_ask_plain" [] := by
    obtain ⟨fd, F⟩ := cd.def_ 34 (d := d__law_ask_plain) rfl
    exact ⟨_, fd, F, glo (by simp [fa])⟩
  have h__law_told : Here K mg s__law_told "_law_told" [] := by
    obtain ⟨fd, F⟩ := cd.def_ 35 (d := d__law_told) rfl
    exact ⟨_, fd, F, glo (by simp [fa])⟩
  have h__law_ask_first : Here K mg s__law_ask_first "_law_ask_first" [] := by
    obtain ⟨fd, F⟩ := cd.def_ 36 (d := d__law_ask_first) rfl
    exact ⟨_, fd, F, glo (by simp [fa])⟩
  have h_law : Here K mg s_law "law" [] := by
    obtain ⟨fd, F⟩ := cd.def_ 37 (d := d_law) rfl
    exact ⟨_, fd, F, glo (by simp [fa])⟩
  have be : ∀ {a b : Bool}, (a && b) = true → a = true ∧ b = true := fun h => by simpa using h
  obtain ⟨x1, cx⟩ := be cx
  obtain ⟨x2, cx⟩ := be cx
  obtain ⟨x3, cx⟩ := be cx
  obtain ⟨x4, cx⟩ := be cx
  obtain ⟨x5, cx⟩ := be cx
  obtain ⟨x6, cx⟩ := be cx
  obtain ⟨x7, cx⟩ := be cx
  obtain ⟨x8, x9⟩ := be cx
  obtain ⟨q1, q2, q3, q4⟩ := He.exc_ok (cd.facts (f := .exc "TooMany") (by simp [fa]))
  have ET : Exc0 K mg "TooMany" (He.ga K "TooMany") := ⟨q1, glo (by simp [fa]), q2, q3, q4⟩
  have ER : Errs K mg (He.ga K "TooMany") := ⟨ET, ⟨_, glo (by simp [fa]), He.exm_ok (cd.facts (f := .exm "TooMany" "PassError" true) (by simp [fa]))⟩,
    ⟨_, _, _, _, _, _, glo (by simp [fa]), glo (by simp [fa]), glo (by simp [fa]), glo (by simp [fa]), glo (by simp [fa]), glo (by simp [fa]), of_decide_eq_true x1⟩, of_decide_eq_true x2,
    ⟨He.eqO_ok x3, He.eqO_ok x4, q3, x5, He.eqO_ok x6, He.eqO_ok x7, of_decide_eq_true x8, of_decide_eq_true x9⟩⟩
  obtain ⟨fd, F⟩ := cd.def_ 37 (d := d_law) rfl
  have e := hfa.symm.trans (glo (x := "law") (by simp [fa]))
  cases e
  have b := FunD.bindsA (ps := ["_law_script"]) F fun _ _ _ _ _ _ us hl => match us, hl with | [_], _ => rfl
  refine ⟨fd, fun s v => b s [v] rfl, fun base _ _ => ?_⟩
  have c_is_whole := ok_is_whole (P := P) (w := w) (base := base) B h_is_whole
  have c_may_be := ok_may_be (P := P) (w := w) (base := base) h_may_be
  have c_can := ok_can B c_may_be h_can
  have c_crowd_behind := ok_crowd_behind (P := P) (w := w) (base := base) B h_crowd_behind
  have c_is_next := ok_is_next B c_is_whole c_may_be h_is_next
  have c_met := ok_met B c_is_next c_crowd_behind h_met
  have c_said := ok_said (P := P) (w := w) (base := base) B h_said
  have c_begun := ok_begun (P := P) (w := w) (base := base) B h_begun
  have c_graph_of := ok_graph_of B ET c_can c_met h_graph_of
  have c_come := ok_come B c_graph_of h_come
  have c_row_to := ok_row_to (P := P) (w := w) (base := base) B h_row_to
  have c_way_to := ok_way_to B c_graph_of c_row_to h_way_to
  have c_ranks_to := ok_ranks_to (P := P) (w := w) (base := base) B h_ranks_to
  have c_hands_of := ok_hands_of (P := P) (w := w) (base := base) B h_hands_of
  have c_holds0 := ok_holds0 (P := P) (w := w) (base := base) h_holds
  have c_holds := ok_holdsS B (Nat.le_refl 1) c_hands_of c_holds0 h_holds
  have c_truth_word := ok_truth_word B c_holds h_truth_word
  have c_settled := ok_settled B c_said c_come.1 h_settled
  have c_gone := ok_gone_through B (kg := 4) (by decide) (by decide) c_graph_of c_begun c_truth_word c_said c_ranks_to h_gone_through
  have c_answers := ok_answers B c_gone h_answers
  have c_err_at := ok_err_at B (by decide) c_graph_of c_row_to c_gone h_err_at
  have c_beginnings := ok_beginnings (P := P) (w := w) (base := base) B h_beginnings
  have c_err_of := ok_err_of B (by decide) c_beginnings c_err_at.1 h_err_of
  have c_last_left := ok_last_left (P := P) (w := w) (base := base) B h_last_left
  have c_rounds_of := ok_rounds_of B c_last_left h_rounds_of
  have c_is_shut := ok_is_shut (P := P) (w := w) (base := base) B h_is_shut
  have c_ends_of := ok_ends_of B c_graph_of c_rounds_of c_is_shut h_ends_of
  have c_ring_to := ok_ring_to B c_graph_of c_row_to h_ring_to
  have c_end := ok_end (P := P) (w := w) (base := base) B h__law_end
  have cs : Calls P w K mg base (He.ga K "TooMany") [] := ⟨c_come.1, c_way_to.1, c_settled.1, c_answers.1, c_err_at.1, c_ends_of.1, c_ring_to.1⟩
  have csd : Calls P w K mg base (He.ga K "TooMany") [.int 1000] := ⟨c_come.2, c_way_to.2, c_settled.2, c_answers.2, c_err_at.2, c_ends_of.2, c_ring_to.2⟩
  have c_plain := ok_ask_plain B csd c_end h__law_ask_plain
  have c_ask := ok_ask B cs c_end c_plain h__law_ask
  have c_first := ok_ask_first B c_err_of.1 c_err_of.2 h__law_ask_first
  have c_told := ok_told B ER c_ask h__law_told
  have c_tm := ok_too_many (P := P) (w := w) (base := base) B (k := 8) ER h__law_too_many
  have c_wide := ok_wide (P := P) (w := w) (base := base) B h__law_wide
  have c_feed := ok_feed (P := P) (w := w) (base := base) B h__law_feed
  have c_draw := ok_draw (P := P) (w := w) (base := base) B h__law_draw
  have c_round := ok_round (P := P) (w := w) (base := base) B h__law_round
  obtain ⟨fA, gA, hA⟩ := Cl.held c_ask
  obtain ⟨fF, gF, hF⟩ := Cl.held c_first
  exact ok_law B mathOk gA gF hA hF c_feed c_draw c_round c_wide c_first c_tm c_told F
end Pg
open PySem PySem.W PySem.Calls PyProof.Rows
theorem PySem.Challenge.cw_passersby_k47_a_thousand_at_most_holds : PySem.Challenge.rw_passersby_k47_a_thousand_at_most.Holds := by
  w_on; o_law
  refine HandSHeadRun.head_any (r := OpenLaw.row PySem.Challenge.rw_passersby_k47_a_thousand_at_most) (q := view (OpenLaw.row PySem.Challenge.rw_passersby_k47_a_thousand_at_most).prog [54]) (H := Pg.hk) (ob := Pg.ob) (M := 4000) (loose := Pg.loose) (d := HandSHeadRun.topDef (OpenLaw.row PySem.Challenge.rw_passersby_k47_a_thousand_at_most).prog 54) (kwd := []) Pg.ob_eq
    (by kernel_rfl) (fun s => by kernel_rfl) Pg.run (by kernel_rfl) (by kernel_rfl) (by kernel_rfl) (by rfl) (by first | assumption | decide +kernel) (by decide +kernel) ⟨rfl, rfl, rfl, rfl, rfl, by decide +kernel⟩ ?hw ?hc
  case hw => w_witness2
  case hc =>
    refine L2.walk_ofE (l := PySem.Challenge.rw_passersby_k47_a_thousand_at_most) (n := 63) (k := 10) (x := "_law_script") (CX := L2.CX0) rfl (by decide) (by kernel_rfl) ⟨rfl, by decide, by decide⟩ ?F (fun _ _ _ _ z => z)
    intro w mg fa h Y G hmg0
    obtain ⟨K, KX, c⟩ := Y
    have hmg : mg ("law" : PySem.Str) = some (.ref fa) := by
      have e : (HandSHeadRun.topDef (OpenLaw.row PySem.Challenge.rw_passersby_k47_a_thousand_at_most).prog 54).name = ("law" : PySem.Str) := by kernel_rfl
      rw [← e]
      exact hmg0
    obtain ⟨fd, hb, hF⟩ := Pg.facts (P := (PySem.Challenge.rw_passersby_k47_a_thousand_at_most).prog) (w := w) KX G hmg c
    exact ⟨K, fd, Pg.SpLaw K, KX, hb, fun H a ns hl _ hS => ⟨.ref a, ns, rfl, ⟨a, rfl, hS⟩, hl, fun _ => rfl⟩, hF⟩

