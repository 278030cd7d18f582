import PyProof.Rows.All
import Wide.All
import OpenK.AllK
import Wide.FinOn
import HandS.ForMost
import HandS.Zip
import HandS.ForExc
import HandS.Flow
import HandS.Lambda
import HandS.Defaults
import HandS.IsInst
import HandS.ExcValue
import HandS.ExcSuper
import HandS.Wide
import HandS.Head0
import HandS.Head1
import HandS.Head2
import HandS.HeadEnd
import HandS.HeadHook1
import HandS.HeadHook2
import KE.KExcIs
import HandS.TupAny
import HandS.Deep
import HandS.Conv
import KE.KExcSuper
import KE.KSuper
import HandS.ExcInit
import PyProof.ReprRoads
import HandS.Property
import HandS.Star
import HandS.FStr
import HandS.Strs
import HandS.Style
import KE.KRevSl
import HandS.CallRecv
import HandS.EndTab
import HandS.HeadHook4
import KE.KStateDown
import HandS.Ends
import PyProof.StrLawsTight
import PyProof.StrLawsChain
import PySem.Challenge.RW_unseenstocks_k05_rows_and_their_standing
set_option Elab.async false
set_option linter.all false
set_option maxRecDepth 100000
set_option maxHeartbeats 1000000
/-! enumerate over a tuple -/
namespace Et
open PySem PySem.Spec PyProof.Rows L2
open PySem.Sem (wp)
abbrev eH1 (h : Heap) (l : Addr) : Heap := h.push { cls := .type "tuple_iterator", data := .fields #[.ref l, .int 0 0] }
abbrev eH2 (h : Heap) (l : Addr) : Heap := (eH1 h l).push { cls := .type "enumerate", data := .fields #[.none, .bool false, .ref h.objs.size, rawInt 0, .none, .none] }
theorem newT (l : Addr) (xs : Array Value) : Meets (Builtin.«enumerate.__new__» ⟨[.type "enumerate", .ref l], []⟩) (fun _ R s => s.heap.IsTuple l xs ∧ R (.ok (.ret (.ref (eH1 s.heap l).objs.size))) { s with heap := eH2 s.heap l }) := .of_wp fun prog w A R s h => by
  obtain ⟨hp, g, d, tk, os⟩ := s; obtain ⟨hl, h⟩ := h
  have hs := sub_enumerate
  have hT : Heap.IsTuple (Shared.heap ⟨hp, g, d, tk, os⟩) l xs := hl
  obtain ⟨⟨c, dct, dt, sl⟩, hg, hc, n, hd⟩ := id hl
  obtain rfl : c = .type "tuple" := hc
  wp_walk using AutoSeq1.wpAny_loadPart' hg
  refine wpAny_stack_any fun st => wpAny_pure ?_
  split
  · rename_i c _ _ _ _ _
    cases (c == Value.type "enumerate")
    · wp_walk using AutoSeq1.wpAny_loadPart' hg, wpAny_pyIter_tuple hT; exact ⟨_, rfl, h⟩
    · wp_walk using AutoSeq1.wpAny_loadPart' hg, wpAny_pyIter_tuple hT; exact ⟨_, rfl, h⟩
  · wp_walk using AutoSeq1.wpAny_loadPart' hg, wpAny_pyIter_tuple hT; exact ⟨_, rfl, h⟩
section
variable {prog : Program} {w : World} {A : Around} {E : Value → Shared → Prop} {s : Shared}
theorem callT {l : Addr} {xs : Array Value} {Q : Value → Shared → Prop} (hL : s.heap.IsTuple l xs)
    (h : ∀ h', IsEnum h' (s.heap.objs.size + 1) s.heap.objs.size 0 .none → h'.IsTupleIter s.heap.objs.size l 0 → h'.objs.size = s.heap.objs.size + 2 → (∀ b o, s.heap.get? b = some o → h'.get? b = some o) → Q (.ref (s.heap.objs.size + 1)) { s with heap := h' }) : wpAny (model prog w) A (call (.type "enumerate") [.ref l]) Q E s := by
  refine callType_new F.called_enumerate (by decide) (F.typeCall_enumerate_1 _) (F.newCall_enumerate_1 _) (fun obj => F.args_object_init_2 obj _) F.entry_enumerate_new (newT l xs) ⟨hL, ?_⟩
  have z1 : (eH1 s.heap l).objs.size = s.heap.objs.size + 1 := Heap.size_push ..
  have g2 : (eH2 s.heap l).get? (eH1 s.heap l).objs.size = some _ := Heap.get?_push_size _ rfl
  have g1 : (eH2 s.heap l).get? s.heap.objs.size = some _ := Heap.get?_push_of_some _ (Heap.get?_push_size _ rfl)
  show _ ∧ _
  rw [z1] at g2
  rw [z1]
  exact ⟨⟨_, g2, rfl⟩, h _ g2 ⟨_, g1, rfl, rfl⟩ (by rw [Heap.size_push, z1]) fun b o x => Heap.get?_push_of_some _ (Heap.get?_push_of_some _ x)⟩
theorem nextT {e it l : Addr} {i : Nat} {xs : Array Value} {x old : Value} {Q : Value → Shared → Prop} (he : IsEnum s.heap e it i old) (hit : s.heap.IsTupleIter it l i) (hl : s.heap.IsTuple l xs) (hx : xs[i]? = some x) (hne : e ≠ it)
    (hQ : ∀ h', IsEnumOut h' e it ((i : Int) + 1) x s.heap.objs.size → h'.IsTupleIter it l (i + 1) → h'.get? s.heap.objs.size = some { cls := .type "tuple", data := .seq #[.int i s.toks, x] } → h'.objs.size = s.heap.objs.size + 1 → (∀ b o, b ≠ e → b ≠ it → s.heap.get? b = some o → h'.get? b = some o) → Q (.ref s.heap.objs.size) { s with heap := h', toks := s.toks + 1 }) :
    wpAny (model prog w) A (Builtin.«enumerate.__next__» ⟨[.ref e], []⟩) (fun fin s' => ∃ v, fin = .done (.ret v) ∧ Q v s') E s := by
  obtain ⟨hp, g, d, tk, os⟩ := s
  show wpAny _ _ (field (.ref e) 2 >>= _) _ _ _; refine wpAny_bind (wpAny_field he rfl (x := .ref it) rfl ?_)
  refine wpAny_bind (RZ.nextOf_tuple_item hit hl hx fun k1 q1 s1 => ?_)
  replace s1 : Heap.SameBut it hp k1 := s1
  have e1 : IsEnum k1 e it i old := (s1.2 e hne).trans he
  show wpAny _ _ (field (.ref e) 3 >>= _) _ _ ⟨k1, g, d, tk, os⟩; refine wpAny_bind (wpAny_field e1 rfl (x := rawInt i) rfl ?_)
  show wpAny _ _ (field (.ref e) 4 >>= _) _ _ ⟨k1, g, d, tk, os⟩; refine wpAny_bind (wpAny_field e1 rfl (x := .none) rfl ?_)
  show wpAny _ _ (mkInt i >>= _) _ _ ⟨k1, g, d, tk, os⟩; refine wpAny_bind (wpAny_mkInt ?_)
  show wpAny _ _ (setField (.ref e) 3 (rawInt ((i : Int) + 1)) >>= _) _ _ ⟨k1, g, d, tk + 1, os⟩; refine wpAny_bind (wpAny_setField_rec e1 (by simp) fun k2 e2 s2 => ?_)
  replace s2 : Heap.SameBut e k1 k2 := s2; replace e2 : IsEnum k2 e it ((i : Int) + 1) old := e2
  show wpAny _ _ (setField (.ref e) 4 .none >>= _) _ _ ⟨k2, g, d, tk + 1, os⟩; refine wpAny_bind (wpAny_setField_rec e2 (by simp) fun k3 e3 s3 => ?_)
  replace s3 : Heap.SameBut e k2 k3 := s3; replace e3 : IsEnum k3 e it ((i : Int) + 1) old := e3
  show wpAny _ _ (newTuple [.int i tk, x] >>= _) _ _ ⟨k3, g, d, tk + 1, os⟩; refine wpAny_bind (wpAny_newTuple ?_)
  have e4 : IsEnum (k3.push { cls := .type "tuple", data := .seq #[.int i tk, x] }) e it ((i : Int) + 1) old := Heap.get?_push_of_some _ e3
  generalize hk4 : k3.push { cls := .type "tuple", data := .seq #[.int i tk, x] } = k4 at e4
  have hsz : k3.objs.size = hp.objs.size := by rw [s3.1, s2.1, s1.1]
  have hel : e < hp.objs.size := Heap.lt_size he
  have ht4 : k4.get? hp.objs.size = some { cls := .type "tuple", data := .seq #[.int i tk, x] } := by rw [← hk4, ← hsz]; exact Heap.get?_push_size _ rfl
  have hz4 : k4.objs.size = hp.objs.size + 1 := by rw [← hk4, Heap.size_push, hsz]
  have hkk : ∀ b o, b ≠ e → b ≠ it → hp.get? b = some o → k4.get? b = some o := fun b o hbe hbi hb => by rw [← hk4]; exact Heap.get?_push_of_some _ (s3.extBut b o hbe (s2.extBut b o hbe (s1.extBut b o hbi hb)))
  have q4 : k4.IsTupleIter it l (i + 1) := by rw [← hk4]; obtain ⟨o, ho, r⟩ := (q1.extBut s2.extBut (Ne.symm hne)).extBut s3.extBut (Ne.symm hne); exact ⟨o, Heap.get?_push_of_some _ ho, r⟩
  show wpAny _ _ (Builtin.SmallTypes.ownedTupleIsFree (.ref e) >>= _) _ _ ⟨k4, g, d, tk + 1, os⟩; rw [hsz]
  clear hk4 e3 s3 e2 s2 e1 s1 q1 hsz k3 k2 k1
  refine wpAny_bind ?_
  unfold Builtin.SmallTypes.ownedTupleIsFree
  refine wpAny_bind (wpAny_field e4 rfl (x := .none) rfl (wpAny_pure ?_)); simp only [if_true]
  refine wpAny_bind (wpAny_rule ?_); refine wpAny_bind (wpAny_field e4 rfl (x := old) rfl ?_)
  refine wpAny_bind (wpAny_setField_rec e4 (by simp) fun k5 e5 s5 => ?_)
  replace s5 : Heap.SameBut e k4 k5 := s5; replace e5 : IsEnum k5 e it ((i : Int) + 1) x := e5
  show wpAny _ _ (Builtin.SmallTypes.ownedTupleHandOut (.ref e) (.ref hp.objs.size) >>= _) _ _ ⟨k5, g, d, tk + 1, os⟩; refine wpAny_bind ?_
  unfold Builtin.SmallTypes.ownedTupleHandOut
  refine wpAny_bind (wpAny_setField_rec e5 (by simp) fun k6 e6 s6 => ?_)
  replace s6 : Heap.SameBut e k5 k6 := s6; replace e6 : IsEnumOut k6 e it ((i : Int) + 1) x hp.objs.size := e6
  refine wpAny_setField_rec e6 (by simp) fun k7 e7 s7 => ?_
  replace s7 : Heap.SameBut e k6 k7 := s7; replace e7 : IsEnumOut k7 e it ((i : Int) + 1) x hp.objs.size := e7
  refine wpAny_bind (wpAny_letGo (wpAny_pure ⟨_, rfl, hQ k7 e7 ?_ ?_ ?_ ?_⟩))
  · exact ((q4.extBut s5.extBut (Ne.symm hne)).extBut s6.extBut (Ne.symm hne)).extBut s7.extBut (Ne.symm hne)
  · exact s7.extBut _ _ (Nat.ne_of_gt hel) (s6.extBut _ _ (Nat.ne_of_gt hel) (s5.extBut _ _ (Nat.ne_of_gt hel) ht4))
  · rw [s7.1, s6.1, s5.1, hz4]
  · exact fun b o hbe hbi hb => s7.extBut b o hbe (s6.extBut b o hbe (s5.extBut b o hbe (hkk b o hbe hbi hb)))
theorem pyNextT {e it l : Addr} {i : Nat} {xs : Array Value} {x old : Value} {Q : Option Value → Shared → Prop} (he : IsEnum s.heap e it i old) (hit : s.heap.IsTupleIter it l i) (hl : s.heap.IsTuple l xs) (hx : xs[i]? = some x) (hne : e ≠ it)
    (hQ : ∀ h', IsEnumOut h' e it ((i : Int) + 1) x s.heap.objs.size → h'.IsTupleIter it l (i + 1) → h'.get? s.heap.objs.size = some { cls := .type "tuple", data := .seq #[.int i s.toks, x] } → h'.objs.size = s.heap.objs.size + 1 → (∀ b o, b ≠ e → b ≠ it → s.heap.get? b = some o → h'.get? b = some o) → Q (some (.ref s.heap.objs.size)) { s with heap := h', toks := s.toks + 1 }) :
    wpAny (model prog w) A (pyNext (.ref e)) Q E s := by
  have hT : s.TypeIs (.ref e) "enumerate" := ⟨_, he, rfl⟩
  unfold pyNext; refine wpAny_bind (wpAny_attempt (wpAny_callSpecial?_slot (name := Str.ofString "__next__") hT F.slot_enumerate_next (wpAny_call_entry F.slot_enumerate_next hT F.entry_enumerate_next ?_ (F.args_enumerate_next_1 _))))
  exact nextT he hit hl hx hne fun h' a b c d k => wpAny_pure (hQ h' a b c d k)
theorem pyEndT {e it l : Addr} {i : Nat} {xs : Array Value} {old : Value} {Q : Option Value → Shared → Prop} (hh : A.handled = none) (he : IsEnum s.heap e it i old) (hit : s.heap.IsTupleIter it l i) (hl : s.heap.IsTuple l xs) (hx : xs[i]? = none)
    (hQ : ∀ h', Heap.ExtBut it s.heap h' → Q none { s with heap := h' }) : wpAny (model prog w) A (pyNext (.ref e)) Q E s := by
  have hT : s.TypeIs (.ref e) "enumerate" := ⟨_, he, rfl⟩
  unfold pyNext; refine wpAny_bind (wpAny_attempt (wpAny_callSpecial?_slot (name := Str.ofString "__next__") hT F.slot_enumerate_next (wpAny_call_entry F.slot_enumerate_next hT F.entry_enumerate_next ?_ (F.args_enumerate_next_1 _))))
  show wpAny _ _ (field (.ref e) 2 >>= _) _ _ _; refine wpAny_bind (wpAny_field he rfl (x := .ref it) rfl ?_)
  refine wpAny_bind (RZ.nextOf_tuple_end hh hit hl hx fun h' x hk ⟨o, ho, hc⟩ => ?_)
  exact wpAny_bind (wpAny_isInstance (T := "StopIteration") (b := true) ⟨o, ho, hc⟩ isSubtype_stop (wpAny_pure (hQ _ hk)))
end
/-- the tuple at a as it stands at each turn, each item in a new pair -/
def IteT (K : PySem.W.Frag) (a : Addr) : It :=
  ⟨fun i H => ∃ (xs : List V) (x : V), SqT K H a xs ∧ xs[i]? = some x, fun i H v H' => ∃ T x, v = .ref T ∧ H T = none ∧ H' = upd H T (.tup [.int (i : Nat), x]) ∧ ∀ xs, SqT K H a xs → xs[i]? = some x, fun i H => ∃ xs : List V, SqT K H a xs ∧ xs.length ≤ i⟩
theorem turnT {P : Program} {w : World} {K : PySem.W.Frag} {elts : List Expr} {kk : Nat} {tpos : Pos} (a e it : Addr) :
    Turn P w K (.Tuple elts kk tpos) (IteT K a) [e, it] e (fun i h => (∃ old, IsEnum h e it ((i : Nat) : Int) old) ∧ h.IsTupleIter it a i ∧ e ≠ it) where
  mem := by simp
  obj := fun i h st b hb => by
    obtain ⟨⟨old, he⟩, ⟨o, ho, hc, hd⟩, _⟩ := st
    rcases (show b = e ∨ b = it by simpa using hb) with rfl | rfl
    · exact ⟨_, he, fun v q => nomatch q⟩
    · exact ⟨o, ho, fun v q => by rw [hd] at q; cases q⟩
  keep := fun i h h' ⟨⟨old, he⟩, hi, hne⟩ k => ⟨⟨old, k e (by simp) _ he⟩, hi.at fun o q => k it (by simp) o q, hne⟩
  item := by
    intro X hP hw hK hc i pins s σ H E I hf ⟨⟨old, he⟩, hit, hne⟩ ⟨xs, x, hq, hx⟩
    subst hP hw hK
    obtain ⟨its, rv, p, hz⟩ := I.tuple hq
    obtain ⟨u, hu, ru⟩ := rv.get hx
    have hel : e < s.heap.objs.size := Heap.lt_size he
    have hil : it < s.heap.objs.size := by obtain ⟨_, q, _⟩ := hit; exact Heap.lt_size q
    refine pyNextT he hit (show s.heap.IsTuple a its.toArray from p) (x := u) (by simpa using hu) hne fun h' ho hit' hT hsz hk => ?_
    refine ⟨_, rfl, wpAny_letOwnedTupleGo_enum (s := { s with heap := h', toks := s.toks + 1 }) ho fun h2 he' sb => ?_⟩
    have hT2 : h2.get? s.heap.objs.size = some { cls := .type "tuple", data := .seq #[.int i s.toks, u] } := (sb.2 _ (Nat.ne_of_gt hel)).trans hT
    have new : ObjOk X.prog X.w (upd H s.heap.objs.size (.tup [.int (i : Nat), x])) h2 s.heap.objs.size (.tup [.int (i : Nat), x]) := ⟨by show 2 ≤ sizeLine; decide, [.int i s.toks, u], .cons ⟨_, rfl⟩ (.cons ru .nil), ⟨_, hT2, rfl, _, rfl⟩⟩
    have I1 : Inv X pins σ (upd H s.heap.objs.size (.tup [.int (i : Nat), x])) { s with heap := h2, toks := s.toks + 1 } :=
      I.turnedNew (ch := [e, it]) (fun b ob hb q => (sb.2 b (fun z => hb (by simp [z]))).trans (hk b ob (fun z => hb (by simp [z])) (fun z => hb (by simp [z])) q)) hf (Nat.le_refl _) new
    refine ⟨.ref s.heap.objs.size, _, I1, rfl, ⟨_, x, rfl, I.hok.fresh (Nat.le_refl _), rfl, fun ys hy => by rw [I.tuple_inj hy hq]; exact hx⟩, ⟨⟨u, ?_⟩, hit'.at fun o q => (sb.2 it (Ne.symm hne)).trans q, hne⟩, fun b hb => ?_⟩
    · rw [show ((i + 1 : Nat) : Int) = (i : Int) + 1 by omega]; exact he'
    · have hb' : b < s.heap.objs.size := by rcases (show b = e ∨ b = it by simpa using hb) with rfl | rfl <;> assumption
      rw [upd_ne (Nat.ne_of_lt hb')]; exact (hf b hb).1
  done := by
    intro X hP hw hK hc i pins s σ H E I hf ⟨⟨old, he⟩, hit, hne⟩ ⟨xs, hq, hx⟩
    subst hP hw hK
    obtain ⟨its, rv, p, hz⟩ := I.tuple hq
    obtain ⟨f0, f1, f2, f3, f4, f5⟩ := hf it (by simp)
    have hl := rv.length
    exact pyEndT (I.ok.hd hc) he hit (show s.heap.IsTuple a its.toArray from p) (by simp; omega) fun h' eb => ⟨rfl, I.turned (t' := s.toks) (fun b o hb q => eb b o hb q) f0 f1 f3 f4 f5⟩
  self := fun A i s Q E ⟨⟨_, he⟩, _⟩ h => wpAny_pyIter_enum he h
def iEnumA (K : PySem.W.Frag) (ta : TA) : TI := fun σ H R => ta σ H fun vs H1 => ∃ a xs, vs = [.ref a] ∧ ((SqL K H1 a xs ∧ R (Ite K a) H1) ∨ (SqT K H1 a xs ∧ R (IteT K a) H1))
theorem pi_enumA {X : Cx} {e : Expr} {ta : TA} {p pos tpos : Pos} {elts : List Expr} {kk : Nat} (hg : Gl X "enumerate") (hm : X.mg "enumerate" = none) (ha : PA X [e] ta) (hs : starEach [e] X.env = [(false, eval e X.env)] := by rfl) :
    PI X (.Tuple elts kk tpos) (.Call (.Name "enumerate" p) [e] [] pos) (iEnumA X.K ta) := by
  refine ⟨fun pins s σ H R I h => Call_ (ld_blt I hg hm boot_enumerate (PyProof.Rows.callWith_type1 (thn (ha.run pos pins s σ H _ I h) fun us s1 ⟨vs, H1, I1, r1, a, xs, ex, q1⟩ => ?_) hs rfl))⟩
  subst ex
  cases r1 with
  | cons r rr =>
    cases rr; cases r
    have fr : ∀ b ∈ [s1.heap.objs.size + 1, s1.heap.objs.size], FpOk X pins H1 b := fun b hb => by
      have hle : s1.heap.objs.size ≤ b := by rcases (show b = s1.heap.objs.size + 1 ∨ b = s1.heap.objs.size by simpa using hb) with rfl | rfl <;> omega
      exact I1.fpOk hle (I1.hok.fresh hle)
    rcases q1 with ⟨hq, q⟩ | ⟨hq, q⟩
    · obtain ⟨its, rv, p', hz⟩ := I1.list hq
      refine call_enumerate_list p'.isList fun h' he hit hsz hk => wpAny_pyIter_enum he ?_
      have I2 : Inv X pins σ H1 { s1 with heap := h' } := I1.kept (t' := s1.toks) hk
      exact ⟨s1.heap.objs.size + 1, [s1.heap.objs.size + 1, s1.heap.objs.size], _, _, H1, rfl, I2, turn_enum a (s1.heap.objs.size + 1) s1.heap.objs.size, ⟨⟨.none, he⟩, hit, Nat.succ_ne_self _⟩, fr, q⟩
    · obtain ⟨its, rv, p', hz⟩ := I1.tuple hq
      refine callT (show s1.heap.IsTuple a its.toArray from p') fun h' he hit hsz hk => wpAny_pyIter_enum he ?_
      have I2 : Inv X pins σ H1 { s1 with heap := h' } := I1.kept (t' := s1.toks) hk
      exact ⟨s1.heap.objs.size + 1, [s1.heap.objs.size + 1, s1.heap.objs.size], _, _, H1, rfl, I2, turnT a (s1.heap.objs.size + 1) s1.heap.objs.size, ⟨⟨.none, he⟩, hit, Nat.succ_ne_self _⟩, fr, q⟩
end Et
set_option Elab.async false
set_option linter.all false
set_option maxRecDepth 100000
set_option maxHeartbeats 4000000
/-! the engine: data, own trees, what stands for them -/
namespace Eg
open PySem PySem.Spec PyProof.Rows L2

/-- data: never changes any more -/
inductive D where
  | non | bl (b : Bool) | int (i : Int) | str (s : Str)
  | tup (xs : List D) | lst (xs : List D)
  | dic (ks : List Key) (vs : List D)
  | ins (c : Nat) (vs : List D)
  | exc (c : Nat) (d : D)
  | pr (xs : List D)
  deriving Inhabited

/-- own trees: what is still changed by its one holder -/
inductive T where
  | fr (d : D)
  | lst (ts : List T)
  | dic (ks : List Key) (ts : List T)
  | ins (c : Nat) (ts : List T)
  deriving Inhabited

mutual
def T.toD : T → D
  | .fr d => d
  | .lst ts => .lst (T.toDs ts)
  | .dic ks ts => .dic ks (T.toDs ts)
  | .ins c ts => .ins c (T.toDs ts)
def T.toDs : List T → List D
  | [] => []
  | t :: ts => T.toD t :: T.toDs ts
end
theorem T.toDs_map : ∀ ts : List T, T.toDs ts = ts.map T.toD
  | [] => by simp [T.toDs]
  | t :: ts => by simp [T.toDs, T.toDs_map ts]
theorem toDs_fr : ∀ ds : List D, T.toDs (ds.map T.fr) = ds
  | [] => by simp [T.toDs]
  | d :: ds => by simp [T.toDs, T.toD, toDs_fr ds]

/-- what is linked: the written part, the classes' places -/
structure Wd where
  K : PySem.W.Frag
  cA : Nat → Addr
  fl : Nat → List Str
  T : List (Addr × Str)

/-- locked for good -/
def Fz (H : Hp) (a : Addr) (u : HO) : Prop := ∃ o, H a = some (.frz o u)
/-- a tuple without a dict of its own -/
def SqN (K : PySem.W.Frag) (H : Hp) (a : Addr) (xs : List V) : Prop :=
  (∃ o : Obj, H a = some (.frz o (.tup xs)) ∧ o.dict = none) ∨
    ∃ (o : Obj) (its : Array Value) (n : Nat), K.lookup a = some o ∧ o.cls = .type "tuple" ∧ o.dict = none ∧ o.data = .seq its n ∧ its.size ≤ sizeLine ∧ Vals xs its.toList
theorem SqN.sqt {K : PySem.W.Frag} {H : Hp} {a : Addr} {xs : List V} (h : SqN K H a xs) : SqT K H a xs := by
  rcases h with ⟨o, h, _⟩ | ⟨o, its, n, h1, h2, _, h3, h4, h5⟩
  · exact .inl (.inr ⟨o, h⟩)
  · exact .inr ⟨o, its, n, h1, h2, h3, h4, h5⟩
/-- a list that never changes -/
def SqF (K : PySem.W.Frag) (H : Hp) (a : Addr) (xs : List V) : Prop :=
  Fz H a (.lst xs) ∨
    ∃ (o : Obj) (its : Array Value) (n : Nat), K.lookup a = some o ∧ o.cls = .type "list" ∧ o.dict = none ∧ o.data = .seq its n ∧ its.size ≤ sizeLine ∧ Vals xs its.toList
theorem SqF.sql {K : PySem.W.Frag} {H : Hp} {a : Addr} {xs : List V} (h : SqF K H a xs) : SqL K H a xs := by
  rcases h with ⟨o, h⟩ | h
  · exact .inl (.inr ⟨o, h⟩)
  · exact .inr h
/-- an exception's object: its class, its own dict (no dict yet: none) -/
def ExF (H : Hp) (a : Addr) (C : Addr) (fs : List (Str × V)) : Prop :=
  ∃ oe dx, Fz H a (.ext fun h => h.get? a = some oe) ∧ oe.cls = .ref C ∧ oe.dict = some dx ∧ (∃ v, oe.data = .fields v) ∧ Fz H dx (.xd fs)

mutual
inductive Rep (W : Wd) (H : Hp) : D → V → Prop where
  | non : Rep W H .non .non
  | bl (b : Bool) : Rep W H (.bl b) (.bl b)
  | int (i : Int) : Rep W H (.int i) (.int i)
  | str (s : Str) : Rep W H (.str s) (.str s)
  | tup {ds : List D} {a : Addr} {vs : List V} : SqN W.K H a vs → Reps W H ds vs → Rep W H (.tup ds) (.ref a)
  | pr {ds : List D} {a : Addr} {vs : List V} : SqT W.K H a vs → Reps W H ds vs → Rep W H (.pr ds) (.ref a)
  | lst {ds : List D} {a : Addr} {vs : List V} : SqF W.K H a vs → Reps W H ds vs → Rep W H (.lst ds) (.ref a)
  | dic {ks : List Key} {ds : List D} {a : Addr} {vs : List V} : Fz H a (.dK (ks.zip vs)) → Reps W H ds vs → ks.length = vs.length → Rep W H (.dic ks ds) (.ref a)
  | ins {c : Nat} {ds : List D} {a dx : Addr} {vs : List V} : Fz H a (.ins (W.cA c) dx ((W.fl c).zip vs)) → Reps W H ds vs → vs.length ≤ (W.fl c).length → Rep W H (.ins c ds) (.ref a)
  | exc {c : Nat} {d : D} {a : Addr} {v : V} : ExF H a (W.cA c) [("value", v)] → Rep W H d v → Rep W H (.exc c d) (.ref a)
inductive Reps (W : Wd) (H : Hp) : List D → List V → Prop where
  | nil : Reps W H [] []
  | cons {d : D} {v : V} {ds : List D} {vs : List V} : Rep W H d v → Reps W H ds vs → Reps W H (d :: ds) (v :: vs)
end

/-- what no statement of ours changes in place -/
def Stab : HO → Prop
  | .lst _ => False
  | .dK _ => False
  | .dT _ => False
  | .set _ _ => False
  | .ins _ _ _ => False
  | .tbl _ => False
  | .xd _ => False
  | _ => True
/-- what never changes is there as it was -/
structure Ext (H H' : Hp) : Prop where
  keep : ∀ a o, H a = some o → Stab o → H' a = some o
theorem Ext.refl (H : Hp) : Ext H H := ⟨fun _ _ h _ => h⟩
theorem Ext.trans {H H1 H2 : Hp} (a : Ext H H1) (b : Ext H1 H2) : Ext H H2 := ⟨fun x o h z => b.keep x o (a.keep x o h z) z⟩
theorem Ext.tup {H H' : Hp} (e : Ext H H') : ∀ a xs, H a = some (.tup xs) → H' a = some (.tup xs) := fun a _ h => e.keep a _ h True.intro
theorem Ext.frz {H H' : Hp} (e : Ext H H') : ∀ a o u, H a = some (.frz o u) → H' a = some (.frz o u) := fun a _ _ h => e.keep a _ h True.intro
theorem Fz.ext {H H' : Hp} {a : Addr} {u : HO} (e : Ext H H') (h : Fz H a u) : Fz H' a u := let ⟨o, h⟩ := h; ⟨o, e.frz _ _ _ h⟩
theorem SqT.ext {K : PySem.W.Frag} {H H' : Hp} {a : Addr} {xs : List V} (e : Ext H H') (h : SqT K H a xs) : SqT K H' a xs := by
  rcases h with (h | ⟨o, h⟩) | h
  · exact .inl (.inl (e.tup _ _ h))
  · exact .inl (.inr ⟨o, e.frz _ _ _ h⟩)
  · exact .inr h
theorem SqN.ext {K : PySem.W.Frag} {H H' : Hp} {a : Addr} {xs : List V} (e : Ext H H') (h : SqN K H a xs) : SqN K H' a xs := by
  rcases h with ⟨o, h, d⟩ | h
  · exact .inl ⟨o, e.frz _ _ _ h, d⟩
  · exact .inr h
theorem SqF.ext {K : PySem.W.Frag} {H H' : Hp} {a : Addr} {xs : List V} (e : Ext H H') (h : SqF K H a xs) : SqF K H' a xs := by
  rcases h with h | h
  · exact .inl (h.ext e)
  · exact .inr h
theorem ExF.ext {H H' : Hp} {a C : Addr} {fs : List (Str × V)} (e : Ext H H') (h : ExF H a C fs) : ExF H' a C fs := by
  obtain ⟨oe, dx, h1, h2, h3, h4, h5⟩ := h
  exact ⟨oe, dx, h1.ext e, h2, h3, h4, h5.ext e⟩
mutual
theorem Rep.ext {W : Wd} {H H' : Hp} (e : Ext H H') : ∀ {d : D} {v : V}, Rep W H d v → Rep W H' d v
  | _, _, .non => .non
  | _, _, .bl b => .bl b
  | _, _, .int i => .int i
  | _, _, .str s => .str s
  | _, _, .tup h r => .tup (SqN.ext e h) (Reps.ext e r)
  | _, _, .pr h r => .pr (SqT.ext e h) (Reps.ext e r)
  | _, _, .lst h r => .lst (SqF.ext e h) (Reps.ext e r)
  | _, _, .dic h r l => .dic (h.ext e) (Reps.ext e r) l
  | _, _, .ins h r l => .ins (h.ext e) (Reps.ext e r) l
  | _, _, .exc h r => .exc (h.ext e) (Rep.ext e r)
theorem Reps.ext {W : Wd} {H H' : Hp} (e : Ext H H') : ∀ {ds : List D} {vs : List V}, Reps W H ds vs → Reps W H' ds vs
  | _, _, .nil => .nil
  | _, _, .cons h r => .cons (Rep.ext e h) (Reps.ext e r)
end
theorem Reps.length {W : Wd} {H : Hp} : ∀ {ds : List D} {vs : List V}, Reps W H ds vs → ds.length = vs.length
  | _, _, .nil => rfl
  | _, _, .cons _ r => by simp [Reps.length r]
theorem Reps.get {W : Wd} {H : Hp} : ∀ {ds : List D} {vs : List V} {i : Nat} {d : D}, Reps W H ds vs → ds[i]? = some d → ∃ v, vs[i]? = some v ∧ Rep W H d v
  | _, _, _, _, .nil, h => by simp at h
  | _, _, 0, _, .cons r _, h => by simp at h; subst h; exact ⟨_, rfl, r⟩
  | _, _, i + 1, _, .cons _ t, h => by
    obtain ⟨v, h1, h2⟩ := Reps.get (i := i) t (by simpa using h)
    exact ⟨v, by simpa using h1, h2⟩
theorem Reps.append {W : Wd} {H : Hp} : ∀ {as bs : List D} {vs ws : List V}, Reps W H as vs → Reps W H bs ws → Reps W H (as ++ bs) (vs ++ ws)
  | _, _, _, _, .nil, s => s
  | _, _, _, _, .cons h r, s => .cons h (Reps.append r s)
theorem Reps.take {W : Wd} {H : Hp} : ∀ {as : List D} {vs : List V} (n : Nat), Reps W H as vs → Reps W H (as.take n) (vs.take n)
  | _, _, 0, _ => .nil
  | _, _, _ + 1, .nil => .nil
  | _, _, n + 1, .cons h r => .cons h (Reps.take n r)
theorem Reps.drop {W : Wd} {H : Hp} : ∀ {as : List D} {vs : List V} (n : Nat), Reps W H as vs → Reps W H (as.drop n) (vs.drop n)
  | _, _, 0, r => r
  | _, _, _ + 1, .nil => .nil
  | _, _, n + 1, .cons _ r => Reps.drop n r
theorem Reps.reverse {W : Wd} {H : Hp} : ∀ {as : List D} {vs : List V}, Reps W H as vs → Reps W H as.reverse vs.reverse
  | _, _, .nil => .nil
  | _, _, .cons h r => by simp only [List.reverse_cons]; exact (Reps.reverse r).append (.cons h .nil)

mutual
inductive Own (W : Wd) (H : Hp) : T → V → List Addr → Prop where
  | fr {d : D} {v : V} : Rep W H d v → Own W H (.fr d) v []
  | lst {ts : List T} {a : Addr} {vs : List V} {fp : List Addr} : H a = some (.lst vs) → Owns W H ts vs fp → Own W H (.lst ts) (.ref a) (a :: fp)
  | dic {ks : List Key} {ts : List T} {a : Addr} {vs : List V} {fp : List Addr} : H a = some (.dK (ks.zip vs)) → Owns W H ts vs fp → ks.length = vs.length → Own W H (.dic ks ts) (.ref a) (a :: fp)
  | ins {c : Nat} {ts : List T} {a dx : Addr} {vs : List V} {fp : List Addr} : H a = some (.ins (W.cA c) dx ((W.fl c).zip vs)) → Owns W H ts vs fp → vs.length ≤ (W.fl c).length → Own W H (.ins c ts) (.ref a) (a :: fp)
inductive Owns (W : Wd) (H : Hp) : List T → List V → List Addr → Prop where
  | nil : Owns W H [] [] []
  | cons {t : T} {v : V} {ts : List T} {vs : List V} {fp fps : List Addr} : Own W H t v fp → Owns W H ts vs fps → Owns W H (t :: ts) (v :: vs) (fp ++ fps)
end
mutual
/-- the own objects stand as they stood -/
theorem Own.ext {W : Wd} {H H' : Hp} (e : Ext H H') : ∀ {t : T} {v : V} {fp : List Addr}, Own W H t v fp → (∀ a ∈ fp, H' a = H a) → Own W H' t v fp
  | _, _, _, .fr r, _ => .fr (r.ext e)
  | _, _, _, .lst h r, k => .lst ((k _ (by simp)).trans h) (Owns.ext e r fun a m => k a (by simp [m]))
  | _, _, _, .dic h r l, k => .dic ((k _ (by simp)).trans h) (Owns.ext e r fun a m => k a (by simp [m])) l
  | _, _, _, .ins h r l, k => .ins ((k _ (by simp)).trans h) (Owns.ext e r fun a m => k a (by simp [m])) l
theorem Owns.ext {W : Wd} {H H' : Hp} (e : Ext H H') : ∀ {ts : List T} {vs : List V} {fp : List Addr}, Owns W H ts vs fp → (∀ a ∈ fp, H' a = H a) → Owns W H' ts vs fp
  | _, _, _, .nil, _ => .nil
  | _, _, _, .cons h r, k => .cons (Own.ext e h fun a m => k a (by simp [m])) (Owns.ext e r fun a m => k a (by simp [m]))
end
theorem Owns.length {W : Wd} {H : Hp} : ∀ {ts : List T} {vs : List V} {fp : List Addr}, Owns W H ts vs fp → ts.length = vs.length
  | _, _, _, .nil => rfl
  | _, _, _, .cons _ r => by simp [Owns.length r]
theorem Reps.owns {W : Wd} {H : Hp} : ∀ {ds : List D} {vs : List V}, Reps W H ds vs → Owns W H (ds.map T.fr) vs []
  | _, _, .nil => .nil
  | _, _, .cons h r => by
    have := Owns.cons (Own.fr h) (Reps.owns r)
    simpa using this
/-- an own object stands at a footprint's place -/
def Live (H : Hp) (a : Addr) : Prop := (∃ vs, H a = some (.lst vs)) ∨ (∃ kvs, H a = some (.dK kvs)) ∨ ∃ C dx fs, H a = some (.ins C dx fs)
mutual
theorem Own.live {W : Wd} {H : Hp} : ∀ {t : T} {v : V} {fp : List Addr}, Own W H t v fp → ∀ a ∈ fp, Live H a
  | _, _, _, .fr _, a, m => by cases m
  | _, _, _, .lst h r, a, m => by
    rcases List.mem_cons.mp m with rfl | m
    · exact .inl ⟨_, h⟩
    · exact Owns.live r a m
  | _, _, _, .dic h r _, a, m => by
    rcases List.mem_cons.mp m with rfl | m
    · exact .inr (.inl ⟨_, h⟩)
    · exact Owns.live r a m
  | _, _, _, .ins h r _, a, m => by
    rcases List.mem_cons.mp m with rfl | m
    · exact .inr (.inr ⟨_, _, _, h⟩)
    · exact Owns.live r a m
theorem Owns.live {W : Wd} {H : Hp} : ∀ {ts : List T} {vs : List V} {fp : List Addr}, Owns W H ts vs fp → ∀ a ∈ fp, Live H a
  | _, _, _, .nil, a, m => by cases m
  | _, _, _, .cons h r, a, m => by
    rcases List.mem_append.mp m with m | m
    · exact Own.live h a m
    · exact Owns.live r a m
end
theorem Live.mut {H : Hp} {a : Addr} (l : Live H a) : Mut (H a) := by
  rcases l with ⟨_, h⟩ | ⟨_, h⟩ | ⟨_, _, _, h⟩ <;> rw [h] <;> exact True.intro
theorem Live.some {H : Hp} {a : Addr} (l : Live H a) : ∃ u, H a = some u ∧ Mut (some u) := by
  rcases l with ⟨_, h⟩ | ⟨_, h⟩ | ⟨_, _, _, h⟩ <;> exact ⟨_, h, True.intro⟩
/-- writing at a live place keeps what never changes -/
theorem Ext.upd {H : Hp} {a : Addr} {o : HO} (l : Live H a) : Ext H (upd H a o) := by
  refine ⟨fun b ob h z => ?_⟩
  rw [upd_ne]; exact h
  rintro rfl
  rcases l with ⟨_, e⟩ | ⟨_, e⟩ | ⟨_, _, _, e⟩ <;> rw [h] at e <;> cases e <;> exact z
theorem Ext.new {H : Hp} {a : Addr} {o : HO} (h : H a = none) : Ext H (L2.upd H a o) :=
  ⟨fun b ob e _ => by rw [upd_ne (ne_of_none e h)]; exact e⟩

section
variable {X : Cx} {pins : List (Addr × Obj)} {σ : L2.St} {s : Shared} {W : Wd}
mutual
/-- an own tree is locked, from its leaves -/
theorem freeze : ∀ {t : T} {v : V} {fp : List Addr} {H : Hp}, Inv X pins σ H s → Own W H t v fp → fp.Nodup →
    ∃ H', Inv X pins σ H' s ∧ Ext H H' ∧ Rep W H' t.toD v ∧ (∀ a, a ∉ fp → H' a = H a) ∧ ∀ a, H a ≠ none → H' a ≠ none
  | .fr d, v, _, H, I, .fr r, _ => ⟨H, I, Ext.refl H, by simpa [T.toD] using r, fun _ _ => rfl, fun _ h => h⟩
  | .lst ts, _, _, H, I, .lst (a := a) (vs := vs) h r, nd => by
    obtain ⟨na, nd⟩ := List.nodup_cons.mp nd
    obtain ⟨H1, I1, e1, r1, k1, d1⟩ := freezes I r nd
    have h1 : H1 a = some (.lst vs) := (k1 a na).trans h
    obtain ⟨o, I2⟩ := I1.lock h1 True.intro
    have e2 : Ext H1 (L2.upd H1 a (.frz o (.lst vs))) := Ext.upd (.inl ⟨_, h1⟩)
    refine ⟨_, I2, e1.trans e2, by rw [T.toD]; exact .lst (.inl ⟨o, upd_same⟩) (r1.ext e2), fun b hb => ?_, fun b hb => ?_⟩
    · rw [upd_ne (fun z => hb (by simp [z])), k1 b (fun z => hb (by simp [z]))]
    · by_cases z : b = a
      · rw [z, upd_same]; exact fun z => nomatch z
      · rw [upd_ne z]; exact d1 b hb
  | .dic ks ts, _, _, H, I, .dic (a := a) (vs := vs) h r l, nd => by
    obtain ⟨na, nd⟩ := List.nodup_cons.mp nd
    obtain ⟨H1, I1, e1, r1, k1, d1⟩ := freezes I r nd
    have h1 : H1 a = some (.dK (ks.zip vs)) := (k1 a na).trans h
    obtain ⟨o, I2⟩ := I1.lock h1 True.intro
    have e2 : Ext H1 (L2.upd H1 a (.frz o (.dK (ks.zip vs)))) := Ext.upd (.inr (.inl ⟨_, h1⟩))
    refine ⟨_, I2, e1.trans e2, by rw [T.toD]; exact .dic ⟨o, upd_same⟩ (r1.ext e2) l, fun b hb => ?_, fun b hb => ?_⟩
    · rw [upd_ne (fun z => hb (by simp [z])), k1 b (fun z => hb (by simp [z]))]
    · by_cases z : b = a
      · rw [z, upd_same]; exact fun z => nomatch z
      · rw [upd_ne z]; exact d1 b hb
  | .ins c ts, _, _, H, I, .ins (a := a) (dx := dx) (vs := vs) h r l, nd => by
    obtain ⟨na, nd⟩ := List.nodup_cons.mp nd
    obtain ⟨H1, I1, e1, r1, k1, d1⟩ := freezes I r nd
    have h1 : H1 a = some (.ins (W.cA c) dx ((W.fl c).zip vs)) := (k1 a na).trans h
    obtain ⟨o, I2⟩ := I1.lock h1 True.intro
    have e2 : Ext H1 (L2.upd H1 a (.frz o (.ins (W.cA c) dx ((W.fl c).zip vs)))) := Ext.upd (.inr (.inr ⟨_, _, _, h1⟩))
    refine ⟨_, I2, e1.trans e2, by rw [T.toD]; exact .ins ⟨o, upd_same⟩ (r1.ext e2) l, fun b hb => ?_, fun b hb => ?_⟩
    · rw [upd_ne (fun z => hb (by simp [z])), k1 b (fun z => hb (by simp [z]))]
    · by_cases z : b = a
      · rw [z, upd_same]; exact fun z => nomatch z
      · rw [upd_ne z]; exact d1 b hb
theorem freezes : ∀ {ts : List T} {vs : List V} {fp : List Addr} {H : Hp}, Inv X pins σ H s → Owns W H ts vs fp → fp.Nodup →
    ∃ H', Inv X pins σ H' s ∧ Ext H H' ∧ Reps W H' (T.toDs ts) vs ∧ (∀ a, a ∉ fp → H' a = H a) ∧ ∀ a, H a ≠ none → H' a ≠ none
  | [], _, _, H, I, .nil, _ => ⟨H, I, Ext.refl H, by simpa [T.toDs] using .nil, fun _ _ => rfl, fun _ h => h⟩
  | t :: ts, _, _, H, I, .cons (fp := fp) (fps := fps) h r, nd => by
    obtain ⟨n1, n2, n3⟩ := List.nodup_append.mp nd
    obtain ⟨H1, I1, e1, r1, k1, d1⟩ := freeze I h n1
    obtain ⟨H2, I2, e2, r2, k2, d2⟩ := freezes I1 (r.ext e1 fun a m => k1 a fun z => n3 a z a m rfl) n2
    refine ⟨H2, I2, e1.trans e2, by rw [T.toDs]; exact .cons (r1.ext e2) r2, fun b hb => ?_, fun b hb => d2 b (d1 b hb)⟩
    rw [k2 b (fun z => hb (by simp [z])), k1 b (fun z => hb (by simp [z]))]
end
end
end Eg
set_option Elab.async false
set_option linter.all false
set_option maxRecDepth 100000
set_option maxHeartbeats 4000000
/-! the engine: the small language and its evaluator -/
namespace Eg
open PySem PySem.Spec PyProof.Rows L2

/-- built-in functions on values -/
inductive Bi where
  | len | int | abs | list | tuple | repr | any | all | sum | max2 | min2 | str | sorted | max1
  | split | join | upper | index | get
  deriving DecidableEq

inductive Tg where
  | nm (i : Nat)
  | tp (ts : List Tg)

mutual
inductive Ex where
  | none
  | var (i : Nat)
  | cst (d : D)
  | bin (op : Operator) (a b : Ex)
  | neg (a : Ex)
  | not (a : Ex)
  | cmp (op : CmpOp) (a b : Ex)
  | chain (op op' : CmpOp) (a b c : Ex)
  | and (a b : Ex)
  | or (a b : Ex)
  | ite (c : Cn) (a b : Ex)
  | tup (xs : Exs)
  | lst (xs : Exs)
  | dic (ks : List Key) (vs : Exs)
  | dicS (base k v : Ex)
  | call (f : Nat) (xs : Exs)
  | make (c : Nat) (xs : Exs)
  | mkexc (c : Nat) (a : Ex)
  | bi (b : Bi) (xs : Exs)
  | isi (a : Ex) (c : Nat ⊕ String)
  | fld (a : Ex) (n : Nat)
  | meth (a : Ex) (n : Nat) (xs : Exs)
  | ix (a i : Ex)
  | sl (a lo hi : Ex)
  | rev (a : Ex)
  | pop (i : Nat) (a : Ex)
  | fstr (xs : Exs)
  | lrng (it : It)
  | comp (elt : Ex) (tg : Tg) (it : It) (cond : Cn) (own : List Nat)
  | m1 (b : Bi) (a e : Ex)
  | m2 (b : Bi) (a e f : Ex)
  | told (c : Nat) (e : Ex)
  | bad
inductive Exs where
  | nil
  | cons (star : Bool) (e : Ex) (r : Exs)
inductive It where
  | seq (e : Ex)
  | rng1 (a : Ex)
  | rng2 (a b : Ex)
  | enum (e : Ex)
  | zip2 (a b : Ex)
  | zip3 (a b c : Ex)
  | items (e : Ex)
inductive Cn where
  | tt
  | ex (e : Ex)
  | not (c : Cn)
  | and (a b : Cn)
  | or (a b : Cn)
end

mutual
inductive St where
  | asg (i : Nat) (e : Ex)
  | asgT (tg : Tg) (e : Ex)
  | par (is : List Nat) (es : Exs)
  | asgI (i : Nat) (ix e : Ex)
  | asgF (i : Nat) (n : Nat) (e : Ex)
  | expr (e : Ex)
  | app (i : Nat) (e : Ex)
  | ext (i : Nat) (e : Ex)
  | ret (e : Ex)
  | ifs (c : Cn) (a b : Sts)
  | for_ (tg : Tg) (it : It) (body : Sts)
  | while_ (c : Cn) (body : Sts)
  | raise (c : Nat) (e : Ex)
  | asgTF (i : Nat) (ns : List Nat) (e : Ex)
  | brk | cnt | pass | bad
inductive Sts where
  | nil
  | cons (s : St) (r : Sts)
end

/-- a slot -/
inductive Sl where
  | unb
  | val (d : D)
  | own (t : T)
  deriving Inhabited
abbrev Env := List Sl

inductive Out (α : Type) where
  | ok (a : α) (ρ : Env)
  | exc (d : D) (ρ : Env)
  | bad
def Out.bind {α β : Type} : Out α → (α → Env → Out β) → Out β
  | .ok a ρ, f => f a ρ
  | .exc d ρ, _ => .exc d ρ
  | .bad, _ => .bad
def Out.of {α : Type} (ρ : Env) : Option α → Out α
  | some a => .ok a ρ
  | none => .bad

def Out.of' {α : Type} (a : α) : Option Env → Out α
  | some ρ => .ok a ρ
  | none => .bad
def Out.ofX {α : Type} (d : D) : Option Env → Out α
  | some ρ => .exc d ρ
  | none => .bad

/-- what a def comes to: its value, its parameters' slots at the end -/
inductive OutF where
  | ret (t : T) (fin : Env)
  | exc (d : D) (fin : Env)
  | bad

/-- what the classes tell: a field's place, a property's def, a method's def, __init__'s def, subclasses -/
structure Stat where
  nC : Nat
  isX : Nat → Bool
  fld : Nat → Nat → Option Nat
  prop : Nat → Nat → Option Nat
  meth : Nat → Nat → Option Nat
  init : Nat → Option Nat
  sub : Nat → Nat → Bool
  subB : Nat → String → Bool
  dun : Nat → Nat → Option Nat

/-! ### values -/
def fits (n : Nat) : Bool := decide (n ≤ 16777216)
def D.truth : D → Option Bool
  | .non => some false
  | .bl b => some b
  | .int i => some (i != 0)
  | .str s => if fits s.length then some (decide (s.length ≠ 0)) else none
  | .tup xs => some (!xs.isEmpty)
  | .lst xs => some (!xs.isEmpty)
  | _ => none
def keyPy : Key → PyData
  | .inl i => .int i
  | .inr s => .str s
mutual
/-- plain data as the library has it -/
def D.py : D → PyData
  | .non => .none
  | .bl b => .bool b
  | .int i => .int i
  | .str s => .str s
  | .tup xs => .tuple (D.pys xs)
  | .lst xs => .list (D.pys xs)
  | .dic ks vs => .dict (D.pyKv ks vs)
  | _ => .none
def D.pys : List D → List PyData
  | [] => []
  | x :: xs => D.py x :: D.pys xs
def D.pyKv : List Key → List D → List (PyData × PyData)
  | k :: ks, v :: vs => (keyPy k, D.py v) :: D.pyKv ks vs
  | _, _ => []
end
mutual
/-- no instance within -/
def D.plainO : D → Bool
  | .tup xs => D.plainOs xs
  | .lst xs => D.plainOs xs
  | .dic _ vs => D.plainOs vs
  | .ins _ _ => false
  | .exc _ _ => false
  | .pr _ => false
  | _ => true
def D.plainOs : List D → Bool
  | [] => true
  | x :: xs => D.plainO x && D.plainOs xs
end
/-- repr -/
def reprD (x : D) : Option Str :=
  if x.plainO && x.py.showable && decide (x.py.depth ≤ 200) && decide (x.py.shown.length ≤ 16777216) then some x.py.shown else none
def strOkB (s : Str) : Bool := PyData.strOk s
mutual
/-- data whose == is plain, to a depth -/
def D.plain : Nat → D → Bool
  | _, .non => true
  | _, .bl _ => true
  | _, .int _ => true
  | _, .str s => strOkB s
  | n + 1, .tup xs => D.plains n xs
  | n + 1, .lst xs => D.plains n xs
  | _, _ => false
def D.plains : Nat → List D → Bool
  | _, [] => true
  | n, x :: xs => D.plain n x && D.plains n xs
end
/-- == -/
def D.eqv (x y : D) : Bool := PyData.eqv x.py y.py
def D.items : D → Option (List D)
  | .lst xs => some xs
  | .tup xs => some xs
  | _ => none
def strD (s : Str) : List D := s.cps.toList.map fun c => .str ⟨#[c]⟩

def mulOk (i j : Int) : Bool := decide (i.natAbs.log2 + j.natAbs.log2 < 1000000)
def divOk (j : Int) : Bool := decide (j ≠ 0) && decide (j.natAbs.log2 < 9000)
def powOk (i j : Int) : Bool := decide (0 ≤ j) && decide (((Builtin.Int.intBits i : Nat) : Int) * j ≤ 134217728)
def binD (op : Operator) (x y : D) : Option T :=
  match op, x, y with
  | .Add, .int i, .int j => some (.fr (.int (i + j)))
  | .Add, .str i, .str j => if fits (i.length + j.length) then some (.fr (.str (i ++ j))) else none
  | .Add, .lst xs, .lst ys => if fits (xs.length + ys.length) then some (.lst ((xs ++ ys).map .fr)) else none
  | .Add, .tup xs, .tup ys => if fits (xs.length + ys.length) then some (.fr (.tup (xs ++ ys))) else none
  | .Sub, .int i, .int j => some (.fr (.int (i - j)))
  | .Mult, .int i, .int j => if mulOk i j then some (.fr (.int (i * j))) else none
  | .FloorDiv, .int i, .int j => if divOk j then some (.fr (.int (i.fdiv j))) else none
  | .Mod, .int i, .int j => if j ≠ 0 then some (.fr (.int (i.fmod j))) else none
  | .Pow, .int i, .int j => if powOk i j then some (.fr (.int (i ^ j.toNat))) else none
  | _, _, _ => none
def hasKey (k : Key) (ks : List Key) : Bool := ks.any fun j => decide (j = k)
def keyD : Key → D
  | .inl i => .int i
  | .inr s => .str s
def keyOfD : D → Option Key
  | .int i => some (.inl i)
  | .str s => some (.inr s)
  | _ => none
/-- plain data of one piece -/
def D.flat : D → Bool
  | .non => true
  | .bl _ => true
  | .int _ => true
  | .str _ => true
  | _ => false
def D.scal : D → D → Bool
  | .bl _, .int _ => false
  | .int _, .bl _ => false
  | x, y => x.flat && y.flat
def eqD (x y : D) : Option Bool :=
  if D.scal x y || (D.plain 20 x && D.plain 20 y) then some (D.eqv x y) else none
/-- x in y -/
def inD (x y : D) : Option Bool :=
  match y with
  | .lst ys => if (x.flat && ys.all D.flat) || (D.plain 20 x && D.plains 20 ys) then some (ys.any fun z => D.eqv z x) else none
  | .tup ys => if (x.flat && ys.all D.flat) || (D.plain 20 x && D.plains 20 ys) then some (ys.any fun z => D.eqv z x) else none
  | .str z => match x with
    | .str c => if c.length = 1 then some (decide (c.cps.toList.getD 0 0 ∈ z.cps.toList)) else none
    | _ => none
  | .dic ks _ => (keyOfD x).map fun k => hasKey k ks
  | _ => none
def cmpD (op : CmpOp) (x y : D) : Option Bool :=
  match op with
  | .Lt => match x, y with
    | .int i, .int j => some (decide (i < j))
    | _, _ => none
  | .LtE => match x, y with
    | .int i, .int j => some (decide (i ≤ j))
    | _, _ => none
  | .Gt => match x, y with
    | .int i, .int j => some (decide (j < i))
    | _, _ => none
  | .GtE => match x, y with
    | .int i, .int j => some (decide (j ≤ i))
    | _, _ => none
  | .Eq => eqD x y
  | .NotEq => (eqD x y).map (!·)
  | .Is => match y with
    | .non => some (match x with
      | .non => true
      | _ => false)
    | _ => none
  | .IsNot => match y with
    | .non => some (match x with
      | .non => false
      | _ => true)
    | _ => none
  | .In => inD x y
  | .NotIn => (inD x y).map (!·)

/-- a built-in type's name -/
def D.ty : D → String
  | .non => "NoneType"
  | .bl _ => "bool"
  | .int _ => "int"
  | .str _ => "str"
  | .tup _ => "tuple"
  | .lst _ => "list"
  | .dic _ _ => "dict"
  | _ => ""
def tyNs : List String := ["NoneType", "bool", "int", "str", "tuple", "list", "dict"]
def tgNs : List String := ["bool", "int", "str", "tuple", "list", "dict", "ValueError"]
def isTy (t s : String) : Bool := t == s || (t == "bool" && s == "int")
def isOwn (S : Stat) (k : Nat) : Nat ⊕ String → Option Bool
  | .inl j => if j < S.nC then some (S.sub k j) else none
  | .inr s => if tgNs.contains s then some (S.subB k s) else none
def isBlt (S : Stat) (t : String) : Nat ⊕ String → Option Bool
  | .inl j => if j < S.nC then some false else none
  | .inr s => if tgNs.contains s then some (isTy t s) else none
/-- isinstance -/
def isiD (S : Stat) (d : D) (c : Nat ⊕ String) : Option Bool :=
  match d with
  | .ins k _ => if decide (k < S.nC) && !S.isX k then isOwn S k c else none
  | .exc k _ => if decide (k < S.nC) && S.isX k then isOwn S k c else none
  | .pr _ => none
  | d => isBlt S d.ty c

/-! ### built-in functions on values -/
def allB : List D → Option Bool
  | [] => some true
  | .bl b :: r => (allB r).map (b && ·)
  | _ :: _ => none
def anyB : List D → Option Bool
  | [] => some false
  | .bl b :: r => (anyB r).map (b || ·)
  | _ :: _ => none
def sumI : List D → Option Int
  | [] => some 0
  | .int i :: r => (sumI r).map (i + ·)
  | _ :: _ => none
def keyAt {α : Type} : List Key → List α → Key → Option α
  | j :: ks, a :: as, k => if j = k then some a else keyAt ks as k
  | _, _, _ => none
/-- an item at a place that may count from the end -/
def atD (xs : List D) (i : Int) : Option D := L2.atI xs i
def strsD : List D → Option (List Str)
  | [] => some []
  | .str s :: r => (strsD r).map (s :: ·)
  | _ :: _ => none
/-- the first place of a text -/
def strIx (z : Str) : List Str → Option Nat
  | [] => none
  | y :: ys => if y = z then some 0 else (strIx z ys).map (· + 1)
def joinOk (a : Str) (ys : List Str) : Bool := decide ((ys.map (·.length)).sum + ys.length * a.length ≤ 16777216)
def lenD : D → Option Nat
  | .str s => if fits s.length then some s.length else none
  | .tup xs => some xs.length
  | .lst xs => some xs.length
  | _ => none
def biD (R : D → Option Str) : Bi → List D → Option T
  | .len, [x] => (lenD x).map fun (n : Nat) => .fr (.int (n : Int))
  | .int, [.int i] => some (.fr (.int i))
  | .int, [.bl b] => some (.fr (.int (if b then 1 else 0)))
  | .abs, [.int i] => some (.fr (.int (if i < 0 then -i else i)))
  | .list, [x] => x.items.map fun xs => .lst (xs.map .fr)
  | .tuple, [x] => x.items.map fun xs => .fr (.tup xs)
  | .repr, [x] => (R x).map fun s => .fr (.str s)
  | .all, [.lst xs] => (allB xs).map fun b => .fr (.bl b)
  | .any, [.lst xs] => (anyB xs).map fun b => .fr (.bl b)
  | .sum, [.lst xs] => (sumI xs).map fun i => .fr (.int i)
  | .max2, [.int i, .int j] => some (.fr (.int (if j > i then j else i)))
  | .min2, [.int i, .int j] => some (.fr (.int (if j < i then j else i)))
  | .int, [.str s] => if decide (s.length ≤ 640) then (PySem.intText? s).map fun i => .fr (.int i) else none
  | .str, [.int i] => if decide (i.natAbs.log2 < 1920) then some (.fr (.str (toString i))) else none
  | .split, [.str a, .str b] => if decide (b.length ≠ 0) && decide (a.length + 2 ≤ sizeLine) then some (.lst ((Txt.split a b).map fun s => .fr (.str s))) else none
  | .join, [.str a, .lst ds] => (strsD ds).bind fun ys => if joinOk a ys then some (.fr (.str (Txt.join a ys))) else none
  | .join, [.str a, .tup ds] => (strsD ds).bind fun ys => if joinOk a ys then some (.fr (.str (Txt.join a ys))) else none
  | .upper, [.str a] => if decide (a.length ≤ 5592405) then some (.fr (.str (Txt.upper a))) else none
  | .get, [.dic ks vs, y, z] => if ks.length = vs.length then (keyOfD y).map fun k => .fr ((keyAt ks vs k).getD z) else none
  | .index, [.tup ds, .str z] => (strsD ds).bind fun ys => (strIx z ys).map fun (j : Nat) => .fr (.int (j : Int))
  | .index, [.lst ds, .str z] => (strsD ds).bind fun ys => (strIx z ys).map fun (j : Nat) => .fr (.int (j : Int))
  | _, _ => none
def ixD (x i : D) : Option D :=
  match x, i with
  | .lst xs, .int i => atD xs i
  | .tup xs, .int i => atD xs i
  | .str s, .int i => if fits s.length then (L2.atI s.cps.toList i).map fun c => .str ⟨#[c]⟩ else none
  | .dic ks vs, k => (keyOfD k).bind fun k => keyAt ks vs k
  | _, _ => none
/-- the same of an own tree: its item is frozen -/
def ixT (t : T) (i : D) : Option D :=
  match t, i with
  | .fr x, i => ixD x i
  | .lst ts, .int i => match L2.atI ts i with
    | some (.fr d) => some d
    | _ => none
  | .dic ks ts, k => match (keyOfD k).bind fun k => keyAt ks ts k with
    | some (.fr d) => some d
    | _ => none
  | _, _ => none
def slD (x : D) (lo hi : Option Int) : Option T := match x with
  | .lst xs => some (.lst (((xs.drop (HT.sIx xs.length 0 lo)).take (HT.sIx xs.length xs.length hi - HT.sIx xs.length 0 lo)).map .fr))
  | .tup xs => some (.fr (.tup ((xs.drop (HT.sIx xs.length 0 lo)).take (HT.sIx xs.length xs.length hi - HT.sIx xs.length 0 lo))))
  | .str s => if fits s.length then some (.fr (.str (cutS s lo hi))) else none
  | _ => none

/-- an own thing seen as data, for a look: its parts are frozen -/
def frs : List T → Option (List D)
  | [] => some []
  | .fr d :: r => (frs r).map (d :: ·)
  | _ :: _ => none
def T.shal : T → Option D
  | .fr d => some d
  | .lst ts => (frs ts).map .lst
  | .dic ks ts => (frs ts).map (.dic ks)
  | .ins c ts => (frs ts).map (.ins c)
theorem frs_map : ∀ ds : List D, frs (ds.map T.fr) = some ds
  | [] => rfl
  | d :: ds => by simp [frs, frs_map ds]

/-! ### arguments -/
inductive Ar where
  | tm (t : T)
  | io (i : Nat)
/-- the arguments' slots, and where the one that is own stands (its place; the caller's slot, if it is one) -/
def arSl (ρ : Env) : List Ar → Option (Env × Option (Nat × Option Nat))
  | [] => some ([], none)
  | .tm t :: r => match t, arSl ρ r with
    | .fr d, some (ss, o) => some (.val d :: ss, o.map fun p => (p.1 + 1, p.2))
    | t, some (ss, none) => some (.own t :: ss, some (0, none))
    | _, _ => none
  | .io i :: r => match ρ[i]?, arSl ρ r with
    | some (.own t), some (ss, none) => some (.own t :: ss, some (0, some i))
    | some (.val d), some (ss, o) => some (.val d :: ss, o.map fun p => (p.1 + 1, p.2))
    | _, _ => none
/-- what the call left of the caller's own thing -/
def backAr (ρ : Env) (fin : Env) : Option (Nat × Option Nat) → Option Env
  | some (p, some i) => (fin[p]?).map fun s => ρ.set i s
  | _ => some ρ
def slKeep (keep : Bool) (t : T) : Sl := if keep then .own t else .val t.toD

section
variable (S : Stat) (R : D → Option Str) (F : Nat → Env → OutF)
def callF (f : Nat) (xs : List Ar) (ρ : Env) : Out T :=
  match arSl ρ xs with
  | some (args, o) => match F f args with
    | .ret t fin => Out.of' t (backAr ρ fin o)
    | .exc d fin => Out.ofX d (backAr ρ fin o)
    | .bad => .bad
  | none => .bad
/-- C(..): the new instance is the first argument -/
def makeF (c : Nat) (xs : List Ar) (ρ : Env) : Out T :=
  match S.init c, arSl ρ xs with
  | some f, some (args, none) => match F f (.own (.ins c []) :: args) with
    | .ret (.fr .non) (.own t :: _) => .ok t ρ
    | .exc d _ => .exc d ρ
    | _ => .bad
  | _, _ => .bad
def freezeO : Out T → Out D
  | .ok t ρ => .ok t.toD ρ
  | .exc d ρ => .exc d ρ
  | .bad => .bad
def D.isPr : D → Bool
  | .pr _ => true
  | _ => false
mutual
def asgTg : Tg → D → Env → Option Env
  | .nm i, d, ρ => if decide (i < ρ.length) && !d.isPr then some (ρ.set i (.val d)) else none
  | .tp ts, d, ρ => match d with
    | .tup ds => asgTgs ts ds ρ
    | .pr ds => asgTgs ts ds ρ
    | _ => none
def asgTgs : List Tg → List D → Env → Option Env
  | [], [], ρ => some ρ
  | t :: ts, d :: ds, ρ => (asgTg t d ρ).bind fun ρ => asgTgs ts ds ρ
  | _, _, _ => none
end
def wipeE (ρ : Env) : List Nat → Env
  | [] => ρ
  | k :: ks => (wipeE ρ ks).set k .unb
/-- a comprehension's turns -/
def compGo (own : List Nat) (tg : Tg) (cond : Env → Out Bool) (elt : Env → Out D) : List D → Env → List D → Out (List D)
  | [], ρ, acc => .ok acc ρ
  | x :: xs, ρ, acc => match asgTg tg x (wipeE ρ own) with
    | none => .bad
    | some ρ => match cond ρ with
      | .ok true ρ => match elt ρ with
        | .ok d ρ => compGo own tg cond elt xs ρ (acc ++ [d])
        | _ => .bad
      | .ok false ρ => compGo own tg cond elt xs ρ acc
      | _ => .bad
/-- the block's own names are as they were ahead -/
def backE (ρ0 ρ : Env) : List Nat → Env
  | [] => ρ
  | k :: ks => backE ρ0 (ρ.set k (ρ0[k]?.getD .unb)) ks
def noOwn (ρ : Env) (ks : List Nat) : Bool := ks.all fun k => match ρ[k]? with
  | some (.own _) => false
  | _ => true
mutual
/-- the names of a target are among these -/
def Tg.within (ks : List Nat) : Tg → Bool
  | .nm i => ks.contains i
  | .tp ts => Tg.withins ks ts
def Tg.withins (ks : List Nat) : List Tg → Bool
  | [] => true
  | t :: ts => Tg.within ks t && Tg.withins ks ts
end
def rangeD (lo hi : Int) : List D := (List.range (hi - lo).toNat).map fun (k : Nat) => .int (lo + (k : Int))
def okRange (i : Int) : Bool := decide (-(2 ^ 62) ≤ i) && decide (i < 2 ^ 62)
def enumD (xs : List D) : List D := xs.zipIdx.map fun p => .pr [.int p.2, p.1]

/-! what an expression's own form asks: a name is looked at where it stands -/
def varOf : Ex → Option Nat
  | .var i => some i
  | _ => none
def lookV (ρ : Env) (i : Nat) : Out T := match ρ[i]? with
  | some (.val d) => .ok (.fr d) ρ
  | some (.own t) => .ok t ρ
  | _ => .bad
def lookO (e : Ex) (ρ : Env) (r : Out T) : Out T := match varOf e with
  | some i => lookV ρ i
  | none => (freezeO r).bind fun d ρ => .ok (.fr d) ρ
def boundS (ρ : Env) (i : Nat) : Bool := match ρ[i]? with
  | some (.val _) => true
  | some (.own _) => true
  | _ => false
def ixS (s : Option Sl) (y : D) : Option T := match s with
  | some (.val d) => (ixD d y).map .fr
  | some (.own t) => (t.shal.bind fun x => ixD x y).map .fr
  | _ => none
def slS (s : Option Sl) (l h : Option Int) : Option T := match s with
  | some (.val d) => slD d l h
  | some (.own t) => t.shal.bind fun x => slD x l h
  | _ => none
def propT (c n : Nat) (d : D) (ρ : Env) : Out T := match S.prop c n with
  | some f => match F f [.val d] with
    | .ret t _ => .ok t ρ
    | _ => .bad
  | none => .bad
def fldT (x : T) (n : Nat) (ρ : Env) : Out T := match x with
  | .fr (.ins c ds) => match S.fld c n with
    | some k => match ds[k]? with
      | some d => .ok (.fr d) ρ
      | none => .bad
    | none => propT S F c n (.ins c ds) ρ
  | .fr (.exc c d) => if n = 0 && S.isX c && decide (c < S.nC) then .ok (.fr d) ρ else .bad
  | .ins c ts => match S.fld c n with
    | some k => match ts[k]? with
      | some (.fr d) => .ok (.fr d) ρ
      | _ => .bad
    | none => .bad
  | _ => .bad
def methC (x : T) (n : Nat) : Option Nat := match x with
  | .fr (.ins c _) => S.meth c n
  | .ins c _ => S.meth c n
  | _ => none
def bindI {α : Type} (o : Out D) (f : Int → Env → Out α) : Out α := o.bind fun d ρ => match d with
  | .int i => f i ρ
  | _ => .bad
def noneE : Ex → Bool
  | .none => true
  | _ => false
/-- a slice's part -/
def partO (e : Ex) (ρ : Env) (r : Out T) : Out (Option Int) := if noneE e then .ok none ρ else bindI (freezeO r) fun i ρ => .ok (some i) ρ
def isLstS : Option Sl → Bool
  | some (.own (.lst _)) => true
  | _ => false
def popT (ρ : Env) (i : Nat) (k : Int) : Out T := match ρ[i]? with
  | some (.own (.lst ts)) => match L2.ixN ts.length k with
    | some j => match ts[j]? with
      | some (.fr d) => if okRange k then .ok (.fr d) (ρ.set i (.own (.lst (ts.eraseIdx j)))) else .bad
      | _ => .bad
    | none => .bad
  | _ => .bad
/-- a dict's entry is put -/
def putT (ks : List Key) (ts : List T) (k : Key) (t : T) : List Key × List T :=
  match ks, ts with
  | k' :: ks, t' :: ts => if k' = k then (k' :: ks, t :: ts) else let r := putT ks ts k t; (k' :: r.1, t' :: r.2)
  | _, _ => ([k], [t])
/-- a dict that may stand behind ** -/
def dicOk : D → Bool
  | .dic ks vs => ks.length = vs.length && decide ks.Nodup && decide (ks.length ≤ 12)
  | _ => false
/-- {**x, y: z} -/
def putD (x y z : D) : Option T := match x, keyOfD y with
  | .dic ks vs, some k => (let r := putT ks (vs.map .fr) k (.fr z); some (.dic r.1 r.2))
  | _, _ => none
/-- what stands in a place of an f-string -/
def fpart : D → Option Str
  | .str s => some s
  | .int i => if decide (i.natAbs.log2 < 1920) then some (toString i) else none
  | _ => none
def fparts : List D → Option (List Str)
  | [] => some []
  | d :: r => (fpart d).bind fun s => (fparts r).map (s :: ·)
def fstrD (ds : List D) : Option T := (fparts ds).bind fun ss => if joinOk Str.empty ss then some (.fr (.str (Txt.join Str.empty ss))) else none
/-- told(lambda: ..): what was caught, what came back -/
def recvOk (b : Bi) (x : D) : Bool := match b, x with
  | .split, .str _ => true
  | .join, .str _ => true
  | .index, .tup _ => true
  | .index, .lst _ => true
  | .get, .dic _ _ => true
  | _, _ => false
def toldO (S : Stat) (c : Nat) (o : Out D) : Out T := match o with
  | .ok d ρ => .ok (.fr (.tup [.non, d])) ρ
  | .exc (.exc k d) ρ => if decide (k < S.nC) && decide (c < S.nC) && S.isX k && S.sub k c then .ok (.fr (.tup [.exc k d, .non])) ρ else .bad
  | _ => .bad
def lstD : D → Option (List D)
  | .lst xs => some xs
  | _ => none
/-- zip of two lists, of two tuples -/
def zipD : D → D → Option (List D)
  | .lst xs, .lst ys => some (List.zipWith (fun p q => .pr [p, q]) xs ys)
  | .tup xs, .tup ys => some (List.zipWith (fun p q => .pr [p, q]) xs ys)
  | _, _ => none
def seqD : D → Option (List D)
  | .lst xs => some xs
  | .tup xs => some xs
  | .str s => some (strD s)
  | _ => none

mutual
/-- a value, frozen or own -/
def evE : Ex → Env → Out T
  | .none, ρ => .ok (.fr .non) ρ
  | .var i, ρ => match ρ[i]? with
    | some (.val d) => .ok (.fr d) ρ
    | some (.own t) => .ok (.fr t.toD) (ρ.set i (.val t.toD))
    | _ => .bad
  | .cst d, ρ => .ok (.fr d) ρ
  | .bin op a b, ρ => (freezeO (evE a ρ)).bind fun x ρ => (freezeO (evE b ρ)).bind fun y ρ => Out.of ρ (binD op x y)
  | .neg a, ρ => bindI (freezeO (evE a ρ)) fun i ρ => .ok (.fr (.int (-i))) ρ
  | .not a, ρ => (freezeO (evE a ρ)).bind fun x ρ => Out.of ρ (x.truth.map fun b => .fr (.bl (!b)))
  | .cmp op a b, ρ => (freezeO (evE a ρ)).bind fun x ρ => (lookO b ρ (evE b ρ)).bind fun y ρ => Out.of ρ ((y.shal.bind fun y => cmpD op x y).map fun b => .fr (.bl b))
  | .chain op op' a b c, ρ => (freezeO (evE a ρ)).bind fun x ρ => (freezeO (evE b ρ)).bind fun y ρ => match cmpD op x y with
    | some true => (freezeO (evE c ρ)).bind fun z ρ => Out.of ρ ((cmpD op' y z).map fun b => .fr (.bl b))
    | some false => .ok (.fr (.bl false)) ρ
    | none => .bad
  | .and a b, ρ => (freezeO (evE a ρ)).bind fun x ρ => match x.truth with
    | some true => evE b ρ
    | some false => .ok (.fr x) ρ
    | none => .bad
  | .or a b, ρ => (freezeO (evE a ρ)).bind fun x ρ => match x.truth with
    | some true => .ok (.fr x) ρ
    | some false => evE b ρ
    | none => .bad
  | .ite c a b, ρ => (evC c ρ).bind fun k ρ => if k then evE a ρ else evE b ρ
  | .tup xs, ρ => (evDs xs ρ).bind fun ds ρ => if fits ds.length then .ok (.fr (.tup ds)) ρ else .bad
  | .lst xs, ρ => (evDs xs ρ).bind fun ds ρ => if fits ds.length then .ok (.lst (ds.map .fr)) ρ else .bad
  | .dic ks vs, ρ => (evDs vs ρ).bind fun ds ρ => if ks.length = ds.length && decide ks.Nodup && decide (ks.length ≤ 15) then .ok (.dic ks (ds.map .fr)) ρ else .bad
  | .dicS b k v, ρ => (freezeO (evE b ρ)).bind fun x ρ => if dicOk x then (freezeO (evE k ρ)).bind fun y ρ => (freezeO (evE v ρ)).bind fun z ρ => Out.of ρ (putD x y z) else .bad
  | .call f xs, ρ => (evAs xs ρ).bind fun as ρ => callF F f as ρ
  | .make c xs, ρ => (evAs xs ρ).bind fun as ρ => makeF S F c as ρ
  | .mkexc c a, ρ => (freezeO (evE a ρ)).bind fun x ρ => .ok (.fr (.exc c x)) ρ
  | .bi b xs, ρ => match xs with
    | .cons false e .nil => (lookO e ρ (evE e ρ)).bind fun x ρ => Out.of ρ (x.shal.bind fun x => biD R b [x])
    | xs => (evDs xs ρ).bind fun ds ρ => Out.of ρ (biD R b ds)
  | .isi a c, ρ => (lookO a ρ (evE a ρ)).bind fun x ρ => Out.of ρ ((x.shal.bind fun x => isiD S x c).map fun b => .fr (.bl b))
  | .fld a n, ρ => (lookO a ρ (evE a ρ)).bind fun x ρ => fldT S F x n ρ
  | .meth a n xs, ρ => match varOf a with
    | some i => (lookV ρ i).bind fun x ρ => match methC S x n with
      | some f => (evAs xs ρ).bind fun as ρ => callF F f (.io i :: as) ρ
      | none => .bad
    | none => (freezeO (evE a ρ)).bind fun x ρ => match methC S (.fr x) n with
      | some f => (evAs xs ρ).bind fun as ρ => callF F f (.tm (.fr x) :: as) ρ
      | none => .bad
  | .ix a i, ρ => match varOf a with
    | some k => if boundS ρ k then (freezeO (evE i ρ)).bind fun y ρ => Out.of ρ (ixS ρ[k]? y) else .bad
    | none => (freezeO (evE a ρ)).bind fun x ρ => (freezeO (evE i ρ)).bind fun y ρ => Out.of ρ ((ixD x y).map .fr)
  | .sl a lo hi, ρ => match varOf a with
    | some k => if boundS ρ k then (partO lo ρ (evE lo ρ)).bind fun l ρ => (partO hi ρ (evE hi ρ)).bind fun h ρ => Out.of ρ (slS ρ[k]? l h) else .bad
    | none => (freezeO (evE a ρ)).bind fun x ρ => (partO lo ρ (evE lo ρ)).bind fun l ρ => (partO hi ρ (evE hi ρ)).bind fun h ρ => Out.of ρ (slD x l h)
  | .rev a, ρ => (freezeO (evE a ρ)).bind fun x ρ => match x with
    | .tup xs => .ok (.fr (.tup xs.reverse)) ρ
    | .lst xs => .ok (.lst (xs.reverse.map .fr)) ρ
    | _ => .bad
  | .pop i a, ρ => if !isLstS ρ[i]? then .bad else bindI (freezeO (evE a ρ)) fun k ρ => popT ρ i k
  | .fstr xs, ρ => (evDs xs ρ).bind fun ds ρ => Out.of ρ (fstrD ds)
  | .m1 b a e, ρ => (freezeO (evE a ρ)).bind fun x ρ => if recvOk b x then (freezeO (evE e ρ)).bind fun y ρ => Out.of ρ (biD R b [x, y]) else .bad
  | .m2 b a e f, ρ => (freezeO (evE a ρ)).bind fun x ρ => if recvOk b x then (freezeO (evE e ρ)).bind fun y ρ => (freezeO (evE f ρ)).bind fun z ρ => Out.of ρ (biD R b [x, y, z]) else .bad
  | .told c e, ρ => toldO S c (freezeO (evE e ρ))
  | .bad, _ => .bad
  | .lrng it, ρ => (evIt it ρ).bind fun xs ρ => if fits xs.length then .ok (.lst (xs.map .fr)) ρ else .bad
  | .comp elt tg it cond own, ρ => (evIt it ρ).bind fun xs ρ => if noOwn ρ own && tg.within own && fits xs.length then (compGo own tg (fun ρ => evC cond ρ) (fun ρ => freezeO (evE elt ρ)) xs ρ []).bind fun ds ρ' => .ok (.lst (ds.map .fr)) (backE ρ (wipeE ρ' own) own) else .bad
def evC : Cn → Env → Out Bool
  | .tt, ρ => .ok true ρ
  | .ex e, ρ => (freezeO (evE e ρ)).bind fun x ρ => Out.of ρ x.truth
  | .not a, ρ => (evC a ρ).bind fun b ρ => .ok (!b) ρ
  | .and a b, ρ => (evC a ρ).bind fun k ρ => if k then evC b ρ else .ok false ρ
  | .or a b, ρ => (evC a ρ).bind fun k ρ => if k then .ok true ρ else evC b ρ
def evDs : Exs → Env → Out (List D)
  | .nil, ρ => .ok [] ρ
  | .cons star e r, ρ => (freezeO (evE e ρ)).bind fun x ρ => if star then match x.items with
      | some xs => (evDs r ρ).bind fun ds ρ => .ok (xs ++ ds) ρ
      | none => .bad
    else (evDs r ρ).bind fun ds ρ => .ok (x :: ds) ρ
def evAs : Exs → Env → Out (List Ar)
  | .nil, ρ => .ok [] ρ
  | .cons fz e r, ρ => if fz then (freezeO (evE e ρ)).bind fun d ρ => (evAs r ρ).bind fun as ρ => .ok (.tm (.fr d) :: as) ρ else match varOf e with
    | some i => if boundS ρ i then (evAs r ρ).bind fun as ρ => .ok (.io i :: as) ρ else .bad
    | none => (evE e ρ).bind fun t ρ => (evAs r ρ).bind fun as ρ => .ok (.tm t :: as) ρ
def evIt : It → Env → Out (List D)
  | .seq e, ρ => (freezeO (evE e ρ)).bind fun x ρ => Out.of ρ (seqD x)
  | .rng1 a, ρ => bindI (freezeO (evE a ρ)) fun n ρ => if okRange n then .ok (rangeD 0 n) ρ else .bad
  | .rng2 a b, ρ => bindI (freezeO (evE a ρ)) fun m ρ => bindI (freezeO (evE b ρ)) fun n ρ => if okRange m && okRange n then .ok (rangeD m n) ρ else .bad
  | .enum e, ρ => (freezeO (evE e ρ)).bind fun x ρ => Out.of ρ (x.items.map enumD)
  | .zip2 a b, ρ => (freezeO (evE a ρ)).bind fun x ρ => (freezeO (evE b ρ)).bind fun y ρ => match zipD x y with
    | some xs => .ok xs ρ
    | none => .bad
  | .zip3 _ _ _, _ => .bad
  | .items e, ρ => (freezeO (evE e ρ)).bind fun x ρ => match x with
    | .dic ks vs => if ks.length = vs.length then .ok (List.zipWith (fun k v => .pr [keyD k, v]) ks vs) ρ else .bad
    | _ => .bad
end

/-- what a statement comes to -/
inductive SO where
  | next (ρ : Env)
  | ret (t : T) (ρ : Env)
  | brk (ρ : Env)
  | cnt (ρ : Env)
  | exc (d : D) (ρ : Env)
  | bad
def SO.of {α : Type} (x : Out α) (f : α → Env → SO) : SO :=
  match x with
  | .ok a ρ => f a ρ
  | .exc d ρ => .exc d ρ
  | .bad => .bad
mutual
def Tg.free (io : List Nat) : Tg → Bool
  | .nm i => !io.contains i
  | .tp ts => Tg.frees io ts
def Tg.frees (io : List Nat) : List Tg → Bool
  | [] => true
  | t :: ts => Tg.free io t && Tg.frees io ts
end
def forGo (tg : Tg) (body : Env → SO) : List D → Env → SO
  | [], ρ => .next ρ
  | x :: xs, ρ => match asgTg tg x ρ with
    | none => .bad
    | some ρ => match body ρ with
      | .next ρ => forGo tg body xs ρ
      | .cnt ρ => forGo tg body xs ρ
      | .brk ρ => .next ρ
      | o => o
def whileGo (cond : Env → Out Bool) (body : Env → SO) : Nat → Env → SO
  | 0, _ => .bad
  | n + 1, ρ => match cond ρ with
    | .ok true ρ => match body ρ with
      | .next ρ => whileGo cond body n ρ
      | .cnt ρ => whileGo cond body n ρ
      | .brk ρ => .next ρ
      | o => o
    | .ok false ρ => .next ρ
    | .exc d ρ => .exc d ρ
    | .bad => .bad
/-- a value is stored into a name: as it is, if the name keeps own things, else frozen -/
def store (io kp : List Nat) (i : Nat) (t : T) (ρ : Env) : SO :=
  if !io.contains i && decide (i < ρ.length) then .next (ρ.set i (slKeep (kp.contains i) t)) else .bad
/-- a field of an own instance is stored -/
def putF (S : Stat) (c n : Nat) (d : D) (ts : List T) : Option (List T) := match S.fld c n with
  | some k => if k < ts.length then some (ts.set k (.fr d)) else if k = ts.length then some (ts ++ [.fr d]) else none
  | none => none
/-- a, b = x, y with plain names -/
def parS (io kp : List Nat) : List Nat → List Ar → Env → SO
  | [], [], ρ => .next ρ
  | i :: is, .tm t :: as, ρ => match store io kp i t ρ with
    | .next ρ => parS io kp is as ρ
    | _ => .bad
  | _, _, _ => .bad
/-- fields of an own instance, one behind another -/
def putFs (S : Stat) (c : Nat) : List Nat → List D → List T → Option (List T)
  | [], [], ts => some ts
  | n :: ns, d :: ds, ts => (putF S c n d ts).bind fun ts => putFs S c ns ds ts
  | _, _, _ => none
/-- xs.extend(a list just made) -/
def extS (i : Nat) (t : T) (ρ : Env) : SO := match t with
  | .lst us => match ρ[i]?, frs us with
    | some (.own (.lst ts)), some ds => if fits (ts.length + ds.length) then .next (ρ.set i (.own (.lst (ts ++ ds.map .fr)))) else .bad
    | _, _ => .bad
  | _ => .bad
mutual
def evS (n : Nat) (io kp : List Nat) : St → Env → SO
  | .asg i e, ρ => SO.of (evE S R F e ρ) fun t ρ => store io kp i t ρ
  | .asgT tg e, ρ => SO.of (freezeO (evE S R F e ρ)) fun d ρ => if tg.free io then match asgTg tg d ρ with
    | some ρ => .next ρ
    | none => .bad
    else .bad
  | .par is es, ρ => SO.of (evAs S R F es ρ) fun as ρ => parS io kp is as ρ
  | .asgI i ix e, ρ => SO.of (freezeO (evE S R F e ρ)) fun d ρ => if !isLstS ρ[i]? then .bad else SO.of (freezeO (evE S R F ix ρ)) fun y ρ =>
    match ρ[i]?, y with
    | some (.own (.lst ts)), .int k => match L2.ixN ts.length k with
        | some j => .next (ρ.set i (.own (.lst (ts.set j (.fr d)))))
        | none => .bad
    | _, _ => .bad
  | .asgF i n e, ρ => SO.of (freezeO (evE S R F e ρ)) fun d ρ =>
    match ρ[i]? with
    | some (.own (.ins c ts)) => match putF S c n d ts with
      | some ts => .next (ρ.set i (.own (.ins c ts)))
      | none => .bad
    | _ => .bad
  | .asgTF i ns e, ρ => SO.of (freezeO (evE S R F e ρ)) fun d ρ =>
    match d, ρ[i]? with
    | .tup ds, some (.own (.ins c ts)) => match putFs S c ns ds ts with
      | some ts => .next (ρ.set i (.own (.ins c ts)))
      | none => .bad
    | _, _ => .bad
  | .expr e, ρ => SO.of (evE S R F e ρ) fun _ ρ => .next ρ
  | .app i e, ρ => if !isLstS ρ[i]? then .bad else SO.of (freezeO (evE S R F e ρ)) fun d ρ =>
    match ρ[i]? with
    | some (.own (.lst ts)) => if ts.length < 16777216 then .next (ρ.set i (.own (.lst (ts ++ [.fr d])))) else .bad
    | _ => .bad
  | .ext i e, ρ => if !isLstS ρ[i]? then .bad else SO.of (evE S R F e ρ) fun t ρ => extS i t ρ
  | .ret e, ρ => match e with
    | .var i => if io.contains i then SO.of (evE S R F (.var i) ρ) fun t ρ => .ret t ρ else match ρ[i]? with
      | some (.own t) => .ret t (ρ.set i .unb)
      | some (.val d) => .ret (.fr d) ρ
      | _ => .bad
    | e => SO.of (evE S R F e ρ) fun t ρ => .ret t ρ
  | .ifs c a b, ρ => SO.of (evC S R F c ρ) fun k ρ => if k then evSs n io kp a ρ else evSs n io kp b ρ
  | .for_ tg it body, ρ => SO.of (evIt S R F it ρ) fun xs ρ => if tg.free io then forGo tg (fun ρ => evSs n io kp body ρ) xs ρ else .bad
  | .while_ c body, ρ => whileGo (fun ρ => evC S R F c ρ) (fun ρ => evSs n io kp body ρ) n ρ
  | .raise c e, ρ => SO.of (freezeO (evE S R F e ρ)) fun d ρ => .exc (.exc c d) ρ
  | .bad, _ => .bad
  | .brk, ρ => .brk ρ
  | .cnt, ρ => .cnt ρ
  | .pass, ρ => .next ρ
def evSs (n : Nat) (io kp : List Nat) : Sts → Env → SO
  | .nil, ρ => .next ρ
  | .cons s r, ρ => match evS n io kp s ρ with
    | .next ρ => evSs n io kp r ρ
    | o => o
end
end
/-- a def: parameters, names, the names that keep own things, the body -/
structure Fn where
  np : Nat
  nl : Nat
  kp : List Nat
  body : Sts
def ownsAt : Nat → Env → List Nat
  | _, [] => []
  | k, .own _ :: r => k :: ownsAt (k + 1) r
  | k, _ :: r => ownsAt (k + 1) r
/-- behind the call: of the own arguments what is left of them, the others as they were -/
def finOf : Env → Env → Env
  | .own _ :: as, f :: fs => f :: finOf as fs
  | a :: as, _ :: fs => a :: finOf as fs
  | as, _ => as
def evFn (S : Stat) (R : D → Option Str) (n : Nat) (F : Nat → Env → OutF) (fn : Fn) (args : Env) : OutF :=
  if args.length = fn.np then
    match evSs S R F n (ownsAt 0 args) fn.kp fn.body (args ++ List.replicate (fn.nl - fn.np) .unb) with
    | .ret t ρ => .ret t (finOf args ρ)
    | .next ρ => .ret (.fr .non) (finOf args ρ)
    | .exc d ρ => .exc d (finOf args ρ)
    | _ => .bad
  else .bad
/-- the defs, to a depth -/
def evF (S : Stat) (R : D → Option Str) (n : Nat) (fns : List Fn) : Nat → Nat → Env → OutF
  | 0, _, _ => .bad
  | k + 1, f, args => match fns[f]? with
    | some fn => evFn S R n (evF S R n fns k) fn args
    | none => .bad
end Eg
set_option Elab.async false
set_option linter.all false
set_option maxRecDepth 100000
set_option maxHeartbeats 4000000
/-! the engine: slots, what holds between two steps, the readings -/
namespace Eg
open PySem PySem.Spec PyProof.Rows L2

inductive SlR (W : Wd) (H : Hp) : Sl → Option V → List Addr → Prop where
  | unb {o : Option V} : SlR W H .unb o []
  | val {d : D} {v : V} : Rep W H d v → SlR W H (.val d) (some v) []
  | own {t : T} {v : V} {fp : List Addr} : Own W H t v fp → SlR W H (.own t) (some v) fp
inductive SlRs (W : Wd) (H : Hp) : Env → L2.St → List Addr → Prop where
  | nil : SlRs W H [] [] []
  | cons {s : Sl} {o : Option V} {ρ : Env} {σ : L2.St} {fp fps : List Addr} : SlR W H s o fp → SlRs W H ρ σ fps → SlRs W H (s :: ρ) (o :: σ) (fp ++ fps)
section
variable {W : Wd} {H H' : Hp} {ρ : Env} {σ : L2.St} {fp : List Addr} {s : Sl} {o : Option V}
theorem SlR.live (h : SlR W H s o fp) : ∀ a ∈ fp, Live H a := by
  cases h with
  | unb => intro a m; cases m
  | val _ => intro a m; cases m
  | own h => exact h.live
theorem SlRs.live : ∀ {ρ : Env} {σ : L2.St} {fp : List Addr}, SlRs W H ρ σ fp → ∀ a ∈ fp, Live H a
  | _, _, _, .nil, a, m => by cases m
  | _, _, _, .cons h r, a, m => (List.mem_append.mp m).elim (SlR.live h a) (SlRs.live r a)
theorem SlR.ext (h : SlR W H s o fp) (e : Ext H H') (k : ∀ a ∈ fp, H' a = H a) : SlR W H' s o fp := by
  cases h with
  | unb => exact .unb
  | val r => exact .val (r.ext e)
  | own r => exact .own (r.ext e k)
theorem SlRs.ext : ∀ {ρ : Env} {σ : L2.St} {fp : List Addr}, SlRs W H ρ σ fp → Ext H H' → (∀ a ∈ fp, H' a = H a) → SlRs W H' ρ σ fp
  | _, _, _, .nil, _, _ => .nil
  | _, _, _, .cons h r, e, k => .cons (h.ext e fun a m => k a (by simp [m])) (SlRs.ext r e fun a m => k a (by simp [m]))
theorem SlRs.length : ∀ {ρ : Env} {σ : L2.St} {fp : List Addr}, SlRs W H ρ σ fp → ρ.length = σ.length
  | _, _, _, .nil => rfl
  | _, _, _, .cons _ r => by simp [SlRs.length r]
/-- one slot taken out: the others' footprints stand around it -/
theorem SlRs.at : ∀ {ρ : Env} {σ : L2.St} {fp : List Addr} {i : Nat} {s : Sl}, SlRs W H ρ σ fp → ρ[i]? = some s →
    ∃ o f1 f2 f3, σ[i]? = some o ∧ fp = f1 ++ (f2 ++ f3) ∧ SlR W H s o f2 ∧
      ∀ (H' : Hp) (s' : Sl) (o' : Option V) (f' : List Addr), Ext H H' → (∀ a ∈ f1 ++ f3, H' a = H a) → SlR W H' s' o' f' → SlRs W H' (ρ.set i s') (σ.set i o') (f1 ++ (f' ++ f3))
  | _, _, _, _, _, .nil, h => by simp at h
  | _, _, _, 0, _, .cons (fp := fp) (fps := fps) h r, e => by
    simp at e; subst e
    refine ⟨_, [], fp, fps, rfl, by simp, h, fun H' s' o' f' e k q => ?_⟩
    show SlRs W H' _ _ (f' ++ fps)
    exact .cons q (r.ext e fun a m => k a (by simp [m]))
  | _, _, _, i + 1, _, .cons (fp := fp) (fps := fps) h r, e => by
    obtain ⟨o, f1, f2, f3, h1, h2, h3, h4⟩ := SlRs.at (i := i) r (by simpa using e)
    refine ⟨o, fp ++ f1, f2, f3, by simpa using h1, by rw [h2]; simp, h3, fun H' s' o' f' e k q => ?_⟩
    have := SlRs.cons (h.ext e fun a m => k a (by simp [m])) (h4 H' s' o' f' e (fun a m => k a (by simp at m ⊢; rcases m with m | m <;> simp [m])) q)
    simpa using this
end

/-- at the entry: the heap, what was handed in as own, the slots that keep -/
structure Fx where
  G : Hp
  In : List Addr
  fix : List (Nat × V)
structure RelP (W : Wd) (C : Fx) (ρ : Env) (σ : L2.St) (H : Hp) (fp ex : List Addr) : Prop where
  slots : SlRs W H ρ σ fp
  nd : (fp ++ ex).Nodup
  own : ∀ a ∈ fp ++ ex, a ∈ C.In ∨ C.G a = none
  frame : ∀ b o, C.G b = some o → b ∉ C.In → (∀ ps, o ≠ .tbl ps) → H b = some o
  dom : ∀ b, C.G b ≠ none → H b ≠ none
  fix : ∀ p ∈ C.fix, σ[p.1]? = some (some p.2)
  tabs : LamX.Tabs W.T H
def Rel (W : Wd) (C : Fx) (ρ : Env) (σ : L2.St) (H : Hp) : Prop := ∃ fp, RelP W C ρ σ H fp []
/-- .. beside a value just made -/
def RelT (W : Wd) (C : Fx) (ρ : Env) (σ : L2.St) (H : Hp) (t : T) (v : V) : Prop := ∃ fp ft, Own W H t v ft ∧ RelP W C ρ σ H fp ft
/-- an exception in the air -/
def RepX (W : Wd) (G H : Hp) : D → Value → Option Addr → Prop
  | .exc c d, cls, dx => cls = .ref (W.cA c) ∧ ∃ a v, dx = some a ∧ H a = some (.xd [("value", v)]) ∧ Rep W H d v ∧ G a = none
  | _, _, _ => False

theorem RepX.to {W : Wd} {G G' H : Hp} {d : D} {cls : Value} {dx : Option Addr} (h : RepX W G' H d cls dx) (k : ∀ a, G' a = none → G a = none) : RepX W G H d cls dx := by
  cases d with
  | exc c d => obtain ⟨h1, a, v, h2, h3, h4, h5⟩ := h; exact ⟨h1, a, v, h2, h3, h4, k a h5⟩
  | _ => exact h

theorem Tabs.keep {Ts : List (Addr × Str)} {H H' : Hp} (h : LamX.Tabs Ts H) (e : Ext H H') (t : ∀ b ps, H b = some (.tbl ps) → H' b = some (.tbl ps)) : LamX.Tabs Ts H' := fun p hp => by
  obtain ⟨ps, h1, h2, h3⟩ := h p hp
  refine ⟨ps, t _ _ h1, h2, fun pos cv hc => ?_⟩
  obtain ⟨c, e1, e2⟩ := h3 pos cv hc
  exact ⟨c, e1, e.keep _ _ e2 (by unfold LamX.CodeO; exact True.intro)⟩

section
variable {W : Wd} {C : Fx} {ρ : Env} {σ : L2.St} {H H' : Hp} {fp ex : List Addr} {t : T} {v : V}
theorem Rel.relT {d : D} (h : Rel W C ρ σ H) (r : Rep W H d v) : RelT W C ρ σ H (.fr d) v := by
  obtain ⟨fp, h⟩ := h
  exact ⟨fp, [], .fr r, h⟩
theorem RelT.rel (h : RelT W C ρ σ H t v) : Rel W C ρ σ H := by
  obtain ⟨fp, ft, _, h⟩ := h
  refine ⟨fp, h.slots, ?_, fun a m => h.own a (by simp at m; simp [m]), h.frame, h.dom, h.fix, h.tabs⟩
  simpa using (List.nodup_append.mp h.nd).1
/-- the heap grows: new objects, or writes at places of nobody's -/
theorem RelP.new {p : Addr} {o : HO} (h : RelP W C ρ σ H fp ex) (hp : H p = none) (ho : ∀ ps, o ≠ .tbl ps) : RelP W C ρ σ (upd H p o) fp ex := by
  have e : Ext H (upd H p o) := Ext.new hp
  have ne : ∀ b u, H b = some u → b ≠ p := fun b u q => ne_of_none q hp
  refine ⟨h.slots.ext e fun a m => ?_, h.nd, h.own, fun b u q n nt => ?_, fun b q => ?_, h.fix, Tabs.keep h.tabs e fun b ps q => by rw [upd_ne (ne b _ q)]; exact q⟩
  · obtain ⟨u, q, _⟩ := (h.slots.live a m).some
    rw [upd_ne (ne a u q)]
  · have := h.frame b u q n nt
    rw [upd_ne (ne b u this)]; exact this
  · have := h.dom b q
    by_cases z : b = p
    · rw [z, upd_same]; exact fun z => nomatch z
    · rw [upd_ne z]; exact this
theorem Rel.new {p : Addr} {o : HO} (h : Rel W C ρ σ H) (hp : H p = none) (ho : ∀ ps, o ≠ .tbl ps) : Rel W C ρ σ (upd H p o) := let ⟨fp, h⟩ := h; ⟨fp, h.new hp ho⟩
theorem RelP.fresh {p : Addr} (h : RelP W C ρ σ H fp ex) (hp : H p = none) : C.G p = none := by
  cases e : C.G p with
  | none => rfl
  | some u => exact absurd hp (h.dom p (by rw [e]; exact fun z => nomatch z))
/-- a new own object, its parts frozen -/
theorem Rel.newOwn {p : Addr} {o : HO} (h : Rel W C ρ σ H) (hp : H p = none) (ho : ∀ ps, o ≠ .tbl ps) (q : Own W (upd H p o) t (.ref p) [p]) : RelT W C ρ σ (upd H p o) t (.ref p) := by
  obtain ⟨fp, h⟩ := h
  have h2 := h.new hp ho
  refine ⟨fp, [p], q, h2.slots, ?_, fun a m => ?_, h2.frame, h2.dom, h2.fix, h2.tabs⟩
  · refine List.nodup_append.mpr ⟨by simpa using h.nd, by simp, fun a m b m2 => ?_⟩
    have e : b = p := by simpa using m2
    subst e
    obtain ⟨u, q, _⟩ := (h.slots.live a m).some
    exact ne_of_none q hp
  · rcases List.mem_append.mp m with m | m
    · exact h.own a (by simp [m])
    · have e : a = p := by simpa using m
      rw [e]; exact .inr (h.fresh hp)
/-- freezing what was just made -/
theorem RelT.freeze {X : Cx} {pins : List (Addr × Obj)} {s : Shared} (I : Inv X pins σ H s) (h : RelT W C ρ σ H t v) :
    ∃ H', Inv X pins σ H' s ∧ Ext H H' ∧ Rel W C ρ σ H' ∧ Rep W H' t.toD v := by
  obtain ⟨fp, ft, o, h⟩ := h
  obtain ⟨n1, n2, n3⟩ := List.nodup_append.mp h.nd
  obtain ⟨H', I', e, r, k, d⟩ := Eg.freeze I o n2
  have lv := o.live
  refine ⟨H', I', e, ⟨fp, h.slots.ext e fun a m => k a fun z => n3 a m a z rfl, by simpa using n1, fun a m => h.own a (by simp at m; simp [m]), fun b u q n nt => ?_, fun b q => d b (h.dom b q), h.fix, Tabs.keep h.tabs e fun b ps q => ?_⟩, r⟩
  · rw [k b fun z => ?_]; exact h.frame b u q n nt
    rcases h.own b (by simp [z]) with y | y
    · exact n y
    · rw [q] at y; cases y
  · rw [k b fun z => ?_]; exact q
    rcases lv b z with ⟨_, y⟩ | ⟨_, y⟩ | ⟨_, _, _, y⟩ <;> rw [q] at y <;> cases y
/-- a slot is read and frozen -/
theorem Rel.freezeAt {X : Cx} {pins : List (Addr × Obj)} {s : Shared} {i : Nat} (I : Inv X pins σ H s) (h : Rel W C ρ σ H) (e : ρ[i]? = some (.own t)) :
    ∃ v H', σ[i]? = some (some v) ∧ Inv X pins σ H' s ∧ Ext H H' ∧ Rel W C (ρ.set i (.val t.toD)) σ H' ∧ Rep W H' t.toD v := by
  obtain ⟨fp, h⟩ := h
  obtain ⟨o, f1, f2, f3, h1, h2, h3, h4⟩ := h.slots.at e
  cases h3 with
  | own q =>
    rename_i v
    subst h2
    have nd := h.nd
    simp only [List.append_nil] at nd
    obtain ⟨n1, n2, n3⟩ := List.nodup_append.mp nd
    obtain ⟨m1, m2, m3⟩ := List.nodup_append.mp n2
    obtain ⟨H', I', ex, r, k, d⟩ := Eg.freeze I q m1
    have lv := q.live
    have ko : ∀ a ∈ f1 ++ f3, H' a = H a := fun a m => k a fun z => by
      rcases List.mem_append.mp m with m | m
      · exact n3 a m a (by simp [z]) rfl
      · exact m3 a z a m rfl
    have sl := h4 H' (.val t.toD) (some v) [] ex ko (.val r)
    have es : σ.set i (some v) = σ := by
      apply List.ext_getElem?
      intro j
      by_cases z : i = j
      · subst z; rw [List.getElem?_set_self (List.getElem?_eq_some_iff.mp h1).1, h1]
      · rw [List.getElem?_set_ne z]
    rw [es] at sl
    refine ⟨v, H', h1, I', ex, ⟨_, sl, ?_, fun a m => h.own a ?_, fun b u q n nt => ?_, fun b q => d b (h.dom b q), h.fix, Tabs.keep h.tabs ex fun b ps q => ?_⟩, r⟩
    · simp only [List.nil_append, List.append_nil]
      exact List.nodup_append.mpr ⟨n1, m2, fun a m b m' => n3 a m b (by simp [m'])⟩
    · simp at m ⊢; rcases m with m | m <;> simp [m]
    · rw [k b fun z => ?_]; exact h.frame b u q n nt
      rcases h.own b (by simp [z]) with y | y
      · exact n y
      · rw [q] at y; cases y
    · rw [k b fun z => ?_]; exact q
      rcases lv b z with ⟨_, y⟩ | ⟨_, y⟩ | ⟨_, _, _, y⟩ <;> rw [q] at y <;> cases y
end

/-! ### readings -/
section
variable (W : Wd) (C : Fx) (Wx : WX)
/-- the exception's way -/
def xWay (d : D) (ρ : Env) (σ : L2.St) (H : Hp) : Prop := ∀ cls dx H', Ext H H' → RepX W C.G H' d cls dx → Rel W C ρ σ H' → Wx cls dx σ H'
def wE (o : Out T) (σ : L2.St) (H : Hp) (Q : VK) : Prop := match o with
  | .ok t ρ => ∀ v H', Ext H H' → RelT W C ρ σ H' t v → Q v H'
  | .exc d ρ => xWay W C Wx d ρ σ H
  | .bad => False
def wD (o : Out D) (σ : L2.St) (H : Hp) (Q : VK) : Prop := match o with
  | .ok d ρ => ∀ v H', Ext H H' → Rel W C ρ σ H' → Rep W H' d v → Q v H'
  | .exc d ρ => xWay W C Wx d ρ σ H
  | .bad => False
/-- looked at alone -/
def wB (o : Out T) (σ : L2.St) (H : Hp) (Q : VK) : Prop := match o with
  | .ok t ρ => ∀ v H', Ext H H' → Rel W C ρ σ H' → (∃ fp, Own W H' t v fp) → Q v H'
  | .exc d ρ => xWay W C Wx d ρ σ H
  | .bad => False
def wT (o : Out Bool) (σ : L2.St) (H : Hp) (Q : Bool → Hp → Prop) : Prop := match o with
  | .ok b ρ => ∀ H', Ext H H' → Rel W C ρ σ H' → Q b H'
  | .exc d ρ => xWay W C Wx d ρ σ H
  | .bad => False
def wDs (o : Out (List D)) (σ : L2.St) (H : Hp) (Q : List V → Hp → Prop) : Prop := match o with
  | .ok ds ρ => ∀ vs H', Ext H H' → Rel W C ρ σ H' → Reps W H' ds vs → Q vs H'
  | .exc d ρ => xWay W C Wx d ρ σ H
  | .bad => False
end
section
variable (W : Wd) (Wx : WX)
def tE (ev : Env → Out T) : TE := fun σ H Q => ∃ C ρ, Rel W C ρ σ H ∧ wE W C Wx (ev ρ) σ H Q
def tD (ev : Env → Out D) : TE := fun σ H Q => ∃ C ρ, Rel W C ρ σ H ∧ wD W C Wx (ev ρ) σ H Q
def tBo (ev : Env → Out T) : TE := fun σ H Q => ∃ C ρ, Rel W C ρ σ H ∧ wB W C Wx (ev ρ) σ H Q
def tTe (ev : Env → Out Bool) : TT := fun σ H Q => ∃ C ρ, Rel W C ρ σ H ∧ wT W C Wx (ev ρ) σ H Q
def tDs (ev : Env → Out (List D)) : TA := fun σ H Q => ∃ C ρ, Rel W C ρ σ H ∧ wDs W C Wx (ev ρ) σ H Q
end
section
variable {W : Wd} {C : Fx} {Wx : WX} {X : Cx} {e : Expr} {t t' : TE} {H H1 : Hp} {σ : L2.St}
theorem _root_.L2.PE.mono (h : PE X e t) (k : ∀ σ H Q, t' σ H Q → t σ H Q) : PE X e t' := ⟨fun pins s σ H Q I q => h.run pins s σ H Q I (k σ H Q q)⟩
theorem _root_.L2.PT.mono {t t' : TT} (h : PT X e t) (k : ∀ σ H Q, t' σ H Q → t σ H Q) : PT X e t' := ⟨fun pins s σ H Q I q => h.run pins s σ H Q I (k σ H Q q)⟩
theorem _root_.L2.PA.mono {es : List Expr} {t t' : TA} (h : PA X es t) (k : ∀ σ H Q, t' σ H Q → t σ H Q) : PA X es t' := ⟨fun pos pins s σ H Q I q => h.run pos pins s σ H Q I (k σ H Q q)⟩
theorem xWay.mono {d : D} {ρ : Env} (e : Ext H H1) (h : xWay W C Wx d ρ σ H) : xWay W C Wx d ρ σ H1 := fun cls dx H' e' => h cls dx H' (e.trans e')
theorem wE.mono {o : Out T} {Q : VK} (e : Ext H H1) (h : wE W C Wx o σ H Q) : wE W C Wx o σ H1 Q := by
  cases o with
  | ok t ρ => exact fun v H' e' => h v H' (e.trans e')
  | exc d ρ => exact xWay.mono e h
  | bad => exact h
theorem wD.mono {o : Out D} {Q : VK} (e : Ext H H1) (h : wD W C Wx o σ H Q) : wD W C Wx o σ H1 Q := by
  cases o with
  | ok t ρ => exact fun v H' e' => h v H' (e.trans e')
  | exc d ρ => exact xWay.mono e h
  | bad => exact h
theorem wB.mono {o : Out T} {Q : VK} (e : Ext H H1) (h : wB W C Wx o σ H Q) : wB W C Wx o σ H1 Q := by
  cases o with
  | ok t ρ => exact fun v H' e' => h v H' (e.trans e')
  | exc d ρ => exact xWay.mono e h
  | bad => exact h
theorem wT.mono {o : Out Bool} {Q : Bool → Hp → Prop} (e : Ext H H1) (h : wT W C Wx o σ H Q) : wT W C Wx o σ H1 Q := by
  cases o with
  | ok t ρ => exact fun H' e' => h H' (e.trans e')
  | exc d ρ => exact xWay.mono e h
  | bad => exact h
theorem wDs.mono {o : Out (List D)} {Q : List V → Hp → Prop} (e : Ext H H1) (h : wDs W C Wx o σ H Q) : wDs W C Wx o σ H1 Q := by
  cases o with
  | ok t ρ => exact fun vs H' e' => h vs H' (e.trans e')
  | exc d ρ => exact xWay.mono e h
  | bad => exact h
/-- a step behind another: the first one's reading, then whatever is wanted of the rest -/
theorem wD_bind {α : Type} {P : Out α → Hp → Prop} (hx : ∀ d ρ H, P (.exc d ρ) H → xWay W C Wx d ρ σ H) (hb : ∀ H, ¬ P .bad H) (hm : ∀ o H H1, Ext H H1 → P o H → P o H1)
    {o : Out D} {k : D → Env → Out α} {Q : VK} (h : P (o.bind k) H) (hk : ∀ d ρ v H1, Ext H H1 → Rel W C ρ σ H1 → Rep W H1 d v → P (k d ρ) H1 → Q v H1) : wD W C Wx o σ H Q := by
  cases o with
  | ok d ρ => exact fun v H1 e r q => hk d ρ v H1 e r q (hm _ _ _ e h)
  | exc d ρ => exact hx _ _ _ h
  | bad => exact hb _ h
theorem wB_bind {α : Type} {P : Out α → Hp → Prop} (hx : ∀ d ρ H, P (.exc d ρ) H → xWay W C Wx d ρ σ H) (hb : ∀ H, ¬ P .bad H) (hm : ∀ o H H1, Ext H H1 → P o H → P o H1)
    {o : Out T} {k : T → Env → Out α} {Q : VK} (h : P (o.bind k) H) (hk : ∀ t ρ v H1, Ext H H1 → Rel W C ρ σ H1 → (∃ fp, Own W H1 t v fp) → P (k t ρ) H1 → Q v H1) : wB W C Wx o σ H Q := by
  cases o with
  | ok d ρ => exact fun v H1 e r q => hk d ρ v H1 e r q (hm _ _ _ e h)
  | exc d ρ => exact hx _ _ _ h
  | bad => exact hb _ h
theorem wT_bind {α : Type} {P : Out α → Hp → Prop} (hx : ∀ d ρ H, P (.exc d ρ) H → xWay W C Wx d ρ σ H) (hb : ∀ H, ¬ P .bad H) (hm : ∀ o H H1, Ext H H1 → P o H → P o H1)
    {o : Out Bool} {k : Bool → Env → Out α} {Q : Bool → Hp → Prop} (h : P (o.bind k) H) (hk : ∀ b ρ H1, Ext H H1 → Rel W C ρ σ H1 → P (k b ρ) H1 → Q b H1) : wT W C Wx o σ H Q := by
  cases o with
  | ok d ρ => exact fun H1 e r => hk d ρ H1 e r (hm _ _ _ e h)
  | exc d ρ => exact hx _ _ _ h
  | bad => exact hb _ h
theorem wDs_bind {α : Type} {P : Out α → Hp → Prop} (hx : ∀ d ρ H, P (.exc d ρ) H → xWay W C Wx d ρ σ H) (hb : ∀ H, ¬ P .bad H) (hm : ∀ o H H1, Ext H H1 → P o H → P o H1)
    {o : Out (List D)} {k : List D → Env → Out α} {Q : List V → Hp → Prop} (h : P (o.bind k) H) (hk : ∀ ds ρ vs H1, Ext H H1 → Rel W C ρ σ H1 → Reps W H1 ds vs → P (k ds ρ) H1 → Q vs H1) : wDs W C Wx o σ H Q := by
  cases o with
  | ok d ρ => exact fun v H1 e r q => hk d ρ v H1 e r q (hm _ _ _ e h)
  | exc d ρ => exact hx _ _ _ h
  | bad => exact hb _ h
/-- frozen behind it -/
theorem pe_frz {ev : Env → Out T} (h : PE X e (tE W Wx ev)) : PE X e (tD W Wx fun ρ => freezeO (ev ρ)) := by
  refine ⟨fun pins s σ H Q I ⟨C, ρ, rel, q⟩ => ?_⟩
  cases eo : ev ρ with
  | ok t ρ' =>
    simp only [eo, freezeO] at q
    refine thn (h.run pins s σ H (fun v H' => Ext H H' ∧ RelT W C ρ' σ H' t v) I ⟨C, ρ, rel, by rw [eo]; exact fun v H' e r => ⟨e, r⟩⟩) fun u s1 ⟨v, H1, I1, r1, e1, rt⟩ => ?_
    obtain ⟨H2, I2, e2, rl, rp⟩ := rt.freeze I1
    exact ⟨v, H2, I2, r1, q v H2 (e1.trans e2) rl rp⟩
  | exc d ρ' =>
    simp only [eo, freezeO] at q
    exact h.run pins s σ H Q I ⟨C, ρ, rel, by rw [eo]; exact q⟩
  | bad =>
    simp only [eo, freezeO] at q
    exact q.elim
/-- what is frozen may be looked at -/
theorem pe_look {ev : Env → Out D} (h : PE X e (tD W Wx ev)) : PE X e (tBo W Wx fun ρ => (ev ρ).bind fun d ρ => .ok (.fr d) ρ) := by
  refine h.mono fun σ H Q ⟨C, ρ, rel, q⟩ => ⟨C, ρ, rel, ?_⟩
  cases eo : ev ρ with
  | ok t ρ' => simp only [eo, Out.bind] at q; exact fun v H' e r p => q v H' e r ⟨[], .fr p⟩
  | exc d ρ' => simp only [eo, Out.bind] at q; exact q
  | bad => simp only [eo, Out.bind] at q; exact q
end
end Eg
set_option Elab.async false
set_option linter.all false
set_option maxRecDepth 100000
set_option maxHeartbeats 4000000
/-! the engine: operations on values -/
namespace Eg
open PySem PySem.Spec PyProof.Rows L2

/-- stands for now: as Rep, or an own thing whose parts are frozen -/
inductive WRep (W : Wd) (H : Hp) : D → V → Prop where
  | rep {d : D} {v : V} : Rep W H d v → WRep W H d v
  | lst {ds : List D} {a : Addr} {vs : List V} : H a = some (.lst vs) → Reps W H ds vs → WRep W H (.lst ds) (.ref a)
  | dic {ks : List Key} {ds : List D} {a : Addr} {vs : List V} : H a = some (.dK (ks.zip vs)) → Reps W H ds vs → ks.length = vs.length → WRep W H (.dic ks ds) (.ref a)
  | ins {c : Nat} {ds : List D} {a dx : Addr} {vs : List V} : H a = some (.ins (W.cA c) dx ((W.fl c).zip vs)) → Reps W H ds vs → vs.length ≤ (W.fl c).length → WRep W H (.ins c ds) (.ref a)
theorem frs_owns {W : Wd} {H : Hp} : ∀ {ts : List T} {ds : List D} {vs : List V} {fp : List Addr}, frs ts = some ds → Owns W H ts vs fp → Reps W H ds vs ∧ ts = ds.map .fr
  | [], _, _, _, e, .nil => by cases e; exact ⟨.nil, rfl⟩
  | t :: ts, ds, _, _, e, .cons h r => by
    cases t with
    | fr d =>
      simp only [frs] at e
      obtain ⟨ds', e1, rfl⟩ := Option.map_eq_some_iff.mp e
      obtain ⟨r1, r2⟩ := frs_owns e1 r
      cases h with
      | fr q => exact ⟨.cons q r1, by rw [r2]; rfl⟩
    | lst _ => cases e
    | dic _ _ => cases e
    | ins _ _ => cases e
theorem shal_wrep {W : Wd} {H : Hp} {t : T} {d : D} {v : V} {fp : List Addr} (e : t.shal = some d) (o : Own W H t v fp) : WRep W H d v := by
  cases o with
  | fr r => simp only [T.shal] at e; cases e; exact .rep r
  | lst h r =>
    simp only [T.shal] at e
    obtain ⟨ds, e1, rfl⟩ := Option.map_eq_some_iff.mp e
    exact .lst h (frs_owns e1 r).1
  | dic h r l =>
    simp only [T.shal] at e
    obtain ⟨ds, e1, rfl⟩ := Option.map_eq_some_iff.mp e
    exact .dic h (frs_owns e1 r).1 l
  | ins h r l =>
    simp only [T.shal] at e
    obtain ⟨ds, e1, rfl⟩ := Option.map_eq_some_iff.mp e
    exact .ins h (frs_owns e1 r).1 l
section
variable {W : Wd} {H : Hp} {v : V} {ds : List D}
theorem WRep.lstI (h : WRep W H (.lst ds) v) : ∃ a vs, v = .ref a ∧ SqL W.K H a vs ∧ Reps W H ds vs := by
  cases h with
  | rep r => cases r with
    | lst h r => exact ⟨_, _, rfl, h.sql, r⟩
  | lst h r => exact ⟨_, _, rfl, .inl (.inl h), r⟩
theorem WRep.tupI (h : WRep W H (.tup ds) v) : ∃ a vs, v = .ref a ∧ SqT W.K H a vs ∧ Reps W H ds vs := by
  cases h with
  | rep r => cases r with
    | tup h r => exact ⟨_, _, rfl, h.sqt, r⟩
theorem WRep.tupN (h : WRep W H (.tup ds) v) : ∃ a vs, v = .ref a ∧ SqN W.K H a vs ∧ Reps W H ds vs := by
  cases h with
  | rep r => cases r with
    | tup h r => exact ⟨_, _, rfl, h, r⟩
theorem WRep.intI {i : Int} (h : WRep W H (.int i) v) : v = .int i := by
  cases h with
  | rep r => cases r; rfl
theorem WRep.strI {i : Str} (h : WRep W H (.str i) v) : v = .str i := by
  cases h with
  | rep r => cases r; rfl
theorem WRep.blI {i : Bool} (h : WRep W H (.bl i) v) : v = .bl i := by
  cases h with
  | rep r => cases r; rfl
theorem WRep.nonI (h : WRep W H .non v) : v = .non := by
  cases h with
  | rep r => cases r; rfl
end
/-- what a built-in operation gives: a value that is there, or one new object -/
def ResT (W : Wd) (H : Hp) (t : T) (u : V) (H' : Hp) : Prop :=
  (H' = H ∧ ∃ d, t = .fr d ∧ Rep W H d u) ∨ ∃ p o, H p = none ∧ (∀ ps, o ≠ .tbl ps) ∧ H' = upd H p o ∧ u = .ref p ∧ ((∃ d, t = .fr d ∧ Rep W H' d u) ∨ Own W H' t u [p])
theorem ResT.keep {W : Wd} {H H' : Hp} {d : D} {u : V} (r : Rep W H d u) : ResT W H (.fr d) u H := .inl ⟨rfl, d, rfl, r⟩
theorem ResT.rel {W : Wd} {C : Fx} {ρ : Env} {σ : L2.St} {H H' : Hp} {t : T} {u : V} (h : ResT W H t u H') (r : Rel W C ρ σ H) : Ext H H' ∧ RelT W C ρ σ H' t u := by
  rcases h with ⟨rfl, d, rfl, q⟩ | ⟨p, o, hp, ho, rfl, rfl, ⟨d, rfl, q⟩ | q⟩
  · exact ⟨Ext.refl _, r.relT q⟩
  · exact ⟨Ext.new hp, (r.new hp ho).relT q⟩
  · exact ⟨Ext.new hp, r.newOwn hp ho q⟩
theorem ResT.newTup {W : Wd} {H : Hp} {p : Addr} {o : Obj} {ds : List D} {vs : List V} (hp : H p = none) (ho : o.dict = none) (r : Reps W H ds vs) : ResT W H (.fr (.tup ds)) (.ref p) (upd H p (.frz o (.tup vs))) :=
  .inr ⟨p, .frz o (.tup vs), hp, fun _ z => (nomatch z), rfl, rfl, .inl ⟨_, rfl, .tup (.inl ⟨o, upd_same, ho⟩) (r.ext (Ext.new hp))⟩⟩
theorem ResT.newPr {W : Wd} {H : Hp} {p : Addr} {ds : List D} {vs : List V} (hp : H p = none) (r : Reps W H ds vs) : ResT W H (.fr (.pr ds)) (.ref p) (upd H p (.tup vs)) :=
  .inr ⟨p, .tup vs, hp, fun _ z => (nomatch z), rfl, rfl, .inl ⟨_, rfl, .pr (SqT.of upd_same) (r.ext (Ext.new hp))⟩⟩
/-- a new tuple, known to be without a dict -/
theorem laidN {X : Cx} {pins : List (Addr × Obj)} {σ : L2.St} {H : Hp} {s : Shared} {xs : List V} {its : List Value} {t' : Nat} (I : Inv X pins σ H s) (r : Vals xs its) (hz : xs.length ≤ sizeLine) :
    ∃ o : Obj, o.dict = none ∧ H s.heap.objs.size = none ∧ Inv X pins σ (upd H s.heap.objs.size (.frz o (.tup xs))) { s with heap := s.heap.push { cls := .type "tuple", data := .seq its.toArray }, toks := t' } :=
  ⟨{ cls := .type "tuple", data := .seq its.toArray }, rfl, I.hok.fresh (Nat.le_refl _),
    I.laid (fun b ob q => Heap.get?_push_of_some _ q) (Nat.le_refl _) ⟨Heap.get?_push_size _ rfl, hz, its, r, _, Heap.get?_push_size _ rfl, rfl, _, rfl⟩⟩
/-- t + u, told with the new one -/
theorem op_catN {X : Cx} : OpR X (binaryOp .Add) (fun x y H Q => ∃ a b xs ys, x = .ref a ∧ y = .ref b ∧ SqT X.K H a xs ∧ SqT X.K H b ys ∧ xs.length + ys.length ≤ sizeLine ∧
    (xs = [] → Q (.ref b) H) ∧ (xs ≠ [] → ys = [] → Q (.ref a) H) ∧ (xs ≠ [] → ys ≠ [] → ∀ p o, H p = none → o.dict = none → Q (.ref p) (upd H p (.frz o (.tup (xs ++ ys)))))) := by
  intro pins s σ H x y v u Q I rx ry ⟨a, b, xs, ys, ex, ey, ha, hb, hz, q0, q1, q2⟩
  subst ex ey
  by_cases hx : xs = []
  · subst hx
    exact op_catA pins s σ H _ _ v u Q I rx ry ⟨a, b, [], ys, rfl, rfl, ha, hb, hz, q0, fun z => absurd rfl z, fun z => absurd rfl z⟩
  · cases rx; cases ry
    obtain ⟨is, ra, pa, _⟩ := I.tuple ha
    obtain ⟨js, rb, pb, _⟩ := I.tuple hb
    refine HT.cat_tup pa pb (fun z => hx (ra.nil_iff.mp z)) (fun z => ⟨.ref a, H, I, rfl, q1 hx (rb.nil_iff.mp z)⟩) (fun z => ?_) (by rw [← ra.length, ← rb.length]; exact hz)
    obtain ⟨o, ho, hf, J⟩ := laidN (t' := s.toks) I (ra.append rb) (by rw [List.length_append]; exact hz)
    exact ⟨.ref s.heap.objs.size, _, J, rfl, q2 hx (fun w => z (rb.nil_iff.mpr w)) _ o hf ho⟩
theorem ResT.newLst {W : Wd} {H : Hp} {p : Addr} {ds : List D} {vs : List V} (hp : H p = none) (r : Reps W H ds vs) : ResT W H (.lst (ds.map .fr)) (.ref p) (upd H p (.lst vs)) :=
  .inr ⟨p, .lst vs, hp, fun _ z => (nomatch z), rfl, rfl, .inr (.lst upd_same (r.ext (Ext.new hp)).owns)⟩

theorem fits_le {n : Nat} (h : fits n = true) : n ≤ sizeLine := by
  rw [sizeLine_eq]; exact of_decide_eq_true h

/-! ### == -/
mutual
theorem plain_dp {W : Wd} {H : Hp} : ∀ {n : Nat} {d : D} {v : V}, d.plain n = true → Rep W H d v → Dp W.K H v d.py
  | _, .non, _, _, .non => by rw [D.py]; exact .non
  | _, .bl b, _, _, .bl _ => by rw [D.py]; exact .bl b
  | _, .int i, _, _, .int _ => by rw [D.py]; exact .int i
  | _, .str s, _, _, .str _ => by rw [D.py]; exact .str s
  | n + 1, .tup xs, _, h, .tup q r => by rw [D.py]; exact .tup q.sqt (plains_dp (by simpa [D.plain] using h) r)
  | n + 1, .lst xs, _, h, .lst q r => by rw [D.py]; exact .lst q.sql (plains_dp (by simpa [D.plain] using h) r)
  | 0, .tup xs, _, h, _ => by simp [D.plain] at h
  | 0, .lst xs, _, h, _ => by simp [D.plain] at h
  | n, .dic _ _, _, h, _ => by cases n <;> simp [D.plain] at h
  | n, .ins _ _, _, h, _ => by cases n <;> simp [D.plain] at h
  | n, .exc _ _, _, h, _ => by cases n <;> simp [D.plain] at h
  | n, .pr _, _, h, _ => by cases n <;> simp [D.plain] at h
theorem plains_dp {W : Wd} {H : Hp} : ∀ {n : Nat} {ds : List D} {vs : List V}, D.plains n ds = true → Reps W H ds vs → DpAll W.K H vs (D.pys ds)
  | _, [], _, _, .nil => by rw [D.pys]; exact .nil
  | n, d :: ds, _, h, .cons q r => by
    rw [D.pys]
    simp only [D.plains, Bool.and_eq_true] at h
    exact .cons (plain_dp h.1 q) (plains_dp h.2 r)
end
mutual
theorem plain_lay : ∀ {n : Nat} {d : D}, d.plain n = true → d.py.canLay0 = true ∧ d.py.depth ≤ n + 1
  | _, .non, _ => by simp [D.py, PyData.canLay0, PyData.depth]
  | _, .bl b, _ => by simp [D.py, PyData.canLay0, PyData.depth]
  | _, .int i, _ => by simp [D.py, PyData.canLay0, PyData.depth]
  | n, .str s, h => by
    have h' : strOkB s = true := by cases n <;> simpa [D.plain] using h
    refine ⟨?_, by simp [D.py, PyData.depth]⟩
    simp only [D.py, PyData.canLay0]
    exact h'
  | n + 1, .tup xs, h => by
    obtain ⟨h1, h2⟩ := plains_lay (show D.plains n xs = true by simpa [D.plain] using h)
    refine ⟨by simpa [D.py, PyData.canLay0] using h1, ?_⟩
    simp only [D.py, PyData.depth]; omega
  | n + 1, .lst xs, h => by
    obtain ⟨h1, h2⟩ := plains_lay (show D.plains n xs = true by simpa [D.plain] using h)
    refine ⟨by simpa [D.py, PyData.canLay0] using h1, ?_⟩
    simp only [D.py, PyData.depth]; omega
  | 0, .tup xs, h => by simp [D.plain] at h
  | 0, .lst xs, h => by simp [D.plain] at h
  | n, .dic _ _, h => by cases n <;> simp [D.plain] at h
  | n, .ins _ _, h => by cases n <;> simp [D.plain] at h
  | n, .exc _ _, h => by cases n <;> simp [D.plain] at h
theorem plains_lay : ∀ {n : Nat} {ds : List D}, D.plains n ds = true → PyData.canLayAll0 (D.pys ds) = true ∧ PyData.depthAll (D.pys ds) ≤ n + 1
  | _, [], _ => by simp [D.pys, PyData.canLayAll0, PyData.depthAll]
  | n, d :: ds, h => by
    simp only [D.plains, Bool.and_eq_true] at h
    obtain ⟨a1, a2⟩ := plain_lay h.1
    obtain ⟨b1, b2⟩ := plains_lay h.2
    refine ⟨by simp [D.pys, PyData.canLayAll0, a1, b1], ?_⟩
    simp only [D.pys, PyData.depthAll]
    omega
end
theorem plain_shaped {n : Nat} {d : D} (h : d.plain n = true) (hn : n ≤ 60) : SeqAt.shaped d.py = true := by
  obtain ⟨h1, h2⟩ := plain_lay h
  unfold SeqAt.shaped
  rw [h1]
  simp only [Bool.true_and, decide_eq_true_eq]
  omega
theorem wplain_dp {W : Wd} {H : Hp} {n : Nat} {d : D} {v : V} (h : d.plain n = true) (r : WRep W H d v) : Dp W.K H v d.py := by
  cases r with
  | rep r => exact plain_dp h r
  | lst q r =>
    cases n with
    | zero => simp [D.plain] at h
    | succ n => rw [D.py]; exact .lst (.inl (.inl q)) (plains_dp (by simpa [D.plain] using h) r)
  | dic _ _ _ => cases n <;> simp [D.plain] at h
  | ins _ _ _ => cases n <;> simp [D.plain] at h

section
variable {X : Cx} {W : Wd}
inductive WReps (W : Wd) (H : Hp) : List D → List V → Prop where
  | nil : WReps W H [] []
  | cons {d : D} {v : V} {ds : List D} {vs : List V} : WRep W H d v → WReps W H ds vs → WReps W H (d :: ds) (v :: vs)
theorem Reps.wreps {W : Wd} {H : Hp} : ∀ {ds : List D} {vs : List V}, Reps W H ds vs → WReps W H ds vs
  | _, _, .nil => .nil
  | _, _, .cons h r => .cons (.rep h) (Reps.wreps r)
/-- a two-place operation on values, by what it is on data -/
def OpD (W : Wd) (X : Cx) (f : Value → Value → Sem Value) (op : D → D → Option T) : Prop :=
  OpR X f fun v w H Q => ∃ x y t, WRep W H x v ∧ WRep W H y w ∧ op x y = some t ∧ ∀ u H', ResT W H t u H' → Q u H'
theorem frD {W : Wd} {H : Hp} {Q : VK} {d : D} {u : V} (q : ∀ u H', ResT W H (.fr d) u H' → Q u H') (r : Rep W H d u) : Q u H := q u H (.inl ⟨rfl, d, rfl, r⟩)
theorem add_listG {E : Value → Shared → Prop} {s : Shared} {l b : Addr} {vs ws : List Value} {Q : Value → Shared → Prop} (hl : s.heap.IsList l vs.toArray) (hb : s.heap.IsList b ws.toArray)
    (h : Q (.ref s.heap.objs.size) { s with heap := s.heap.push { cls := .type "list", data := .seq (vs ++ ws).toArray } }) (hsz : vs.length + ws.length ≤ sizeLine) :
    wpAny (model X.prog X.w) X.A (binaryOp .Add (.ref l) (.ref b)) Q E s := by
  obtain ⟨⟨cls, dd, data, sl⟩, ho, hc, n, hd⟩ := id hl
  obtain ⟨⟨cls2, dd2, data2, sl2⟩, ho2, hc2, n2, hd2⟩ := id hb
  simp only at hc hd hc2 hd2
  subst hc hd hc2 hd2
  have e : vs.toArray ++ ws.toArray = (vs ++ ws).toArray := by simp
  refine concat_meets ⟨_, ho, rfl⟩ ⟨_, ho2, rfl⟩ noFill_list_add seq_list_add PySem.F.slot_list_add PySem.F.entry_list_add (PySem.F.args_list_add_2 _ _) (list_addW l b vs.toArray ws.toArray n n2 dd dd2 sl sl2 (by simpa using hsz)) ⟨ho, ho2, ?_⟩
  rw [e]
  exact h
theorem bin_add (hK : X.K = W.K) : OpD W X (binaryOp .Add) (binD .Add) := by
  intro pins s σ H v w u1 u2 Q I r1 r2 ⟨x, y, t, h1, h2, e, q⟩
  cases x <;> cases y <;> simp only [binD] at e <;> try (cases e; done)
  · cases e; cases h1.intI; cases h2.intI
    exact op_add pins s σ H _ _ u1 u2 Q I r1 r2 ⟨_, _, rfl, rfl, frD q (.int _)⟩
  · split at e
    · rename_i hf
      cases e; cases h1.strI; cases h2.strI
      exact op_add_str pins s σ H _ _ u1 u2 Q I r1 r2 ⟨_, _, rfl, rfl, fits_le hf, frD q (.str _)⟩
    · cases e
  · split at e
    · rename_i hf
      cases e
      obtain ⟨a, vs, rfl, ha, ra⟩ := h1.tupN
      obtain ⟨b, ws, rfl, hb, rb⟩ := h2.tupN
      rw [← hK] at ha hb
      refine op_catN pins s σ H _ _ u1 u2 Q I r1 r2 ⟨a, b, vs, ws, rfl, rfl, ha.sqt, hb.sqt, by rw [← ra.length, ← rb.length]; exact fits_le hf, fun e => ?_, fun _ e => ?_, fun _ _ p o hp ho => ?_⟩
      · subst e; cases ra; exact frD q (.tup (hK ▸ hb) rb)
      · subst e; cases rb; exact frD q (by rw [List.append_nil]; exact .tup (hK ▸ ha) ra)
      · exact q _ _ (.newTup hp ho (ra.append rb))
    · cases e
  · split at e
    · rename_i hf
      cases e
      obtain ⟨a, vs, rfl, ha, ra⟩ := h1.lstI
      obtain ⟨b, ws, rfl, hb, rb⟩ := h2.lstI
      rw [← hK] at ha hb
      cases r1; cases r2
      obtain ⟨its, rv, pl, hz⟩ := I.list ha
      obtain ⟨its2, rv2, pl2, hz2⟩ := I.list hb
      refine add_listG pl.isList pl2.isList ?_ (by rw [← rv.length, ← rv2.length, ← ra.length, ← rb.length]; exact fits_le hf)
      exact ⟨.ref _, _, I.lnew (t' := s.toks) (rv.append rv2) (by rw [List.length_append, ← ra.length, ← rb.length]; exact fits_le hf), rfl, q _ _ (.newLst I.fresh (ra.append rb))⟩
    · cases e
theorem bin_sub : OpD W X (binaryOp .Sub) (binD .Sub) := by
  intro pins s σ H v w u1 u2 Q I r1 r2 ⟨x, y, t, h1, h2, e, q⟩
  cases x <;> cases y <;> simp only [binD] at e <;> try (cases e; done)
  cases e; cases h1.intI; cases h2.intI
  exact op_sub pins s σ H _ _ u1 u2 Q I r1 r2 ⟨_, _, rfl, rfl, frD q (.int _)⟩
theorem bin_mul : OpD W X (binaryOp .Mult) (binD .Mult) := by
  intro pins s σ H v w u1 u2 Q I r1 r2 ⟨x, y, t, h1, h2, e, q⟩
  cases x <;> cases y <;> simp only [binD] at e <;> try (cases e; done)
  split at e
  · rename_i hm
    cases e; cases h1.intI; cases h2.intI
    exact op_mulW pins s σ H _ _ u1 u2 Q I r1 r2 ⟨_, _, rfl, rfl, by simpa [mulOk, CMulW] using hm, frD q (.int _)⟩
  · cases e
theorem bin_mod : OpD W X (binaryOp .Mod) (binD .Mod) := by
  intro pins s σ H v w u1 u2 Q I r1 r2 ⟨x, y, t, h1, h2, e, q⟩
  cases x <;> cases y <;> simp only [binD] at e <;> try (cases e; done)
  split at e
  · rename_i hm
    cases e; cases h1.intI; cases h2.intI
    exact op_modN pins s σ H _ _ u1 u2 Q I r1 r2 ⟨_, _, rfl, rfl, hm, frD q (.int _)⟩
  · cases e
theorem bin_fdiv : OpD W X (binaryOp .FloorDiv) (binD .FloorDiv) := by
  intro pins s σ H v w u1 u2 Q I r1 r2 ⟨x, y, t, h1, h2, e, q⟩
  cases x <;> cases y <;> simp only [binD] at e <;> try (cases e; done)
  split at e
  · rename_i i j hm
    cases e; cases h1.intI; cases h2.intI
    simp only [divOk, Bool.and_eq_true, decide_eq_true_eq] at hm
    obtain ⟨t1, rfl⟩ := r1
    obtain ⟨t2, rfl⟩ := r2
    exact floordiv_int hm.1 ⟨.int _, H, I.tok _, ⟨_, rfl⟩, frD q (.int _)⟩ (.inl (PyProof.noPylong_of_log2 hm.2))
  · cases e
theorem bin_pow : OpD W X (binaryOp .Pow) (binD .Pow) := by
  intro pins s σ H v w u1 u2 Q I r1 r2 ⟨x, y, t, h1, h2, e, q⟩
  cases x <;> cases y <;> simp only [binD] at e <;> try (cases e; done)
  split at e
  · rename_i i j hm
    cases e; cases h1.intI; cases h2.intI
    simp only [powOk, Bool.and_eq_true, decide_eq_true_eq] at hm
    obtain ⟨t1, rfl⟩ := r1
    obtain ⟨t2, rfl⟩ := r2
    exact pow_int hm.1 (by have := hm.2; omega) ⟨.int _, H, I.tok _, ⟨_, rfl⟩, frD q (.int _)⟩
  · cases e
theorem bin_all (hK : X.K = W.K) : ∀ op, OpD W X (binaryOp op) (binD op) := by
  intro op
  cases op
  case Add => exact bin_add hK
  case Sub => exact bin_sub
  case Mult => exact bin_mul
  case Mod => exact bin_mod
  case FloorDiv => exact bin_fdiv
  case Pow => exact bin_pow
  all_goals (intro pins s σ H v w u1 u2 Q I r1 r2 ⟨x, y, t, h1, h2, e, q⟩; cases x <;> cases y <;> simp only [binD] at e <;> cases e)

/-! ### comparisons -/
theorem bl_res {H : Hp} {b : Bool} {Q : VK} (q : ∀ u H', ResT W H (.fr (.bl b)) u H' → Q u H') : Q (.bl b) H := frD q (.bl b)
theorem map_bl {o : Option Bool} {t : T} (e : (o.map fun b => T.fr (.bl b)) = some t) : ∃ b, o = some b ∧ t = .fr (.bl b) := by
  obtain ⟨b, h1, rfl⟩ := Option.map_eq_some_iff.mp e
  exact ⟨b, h1, rfl⟩
theorem scal_eqv {H : Hp} {x y : D} {v w : V} (e : D.scal x y = true) (h1 : WRep W H x v) (h2 : WRep W H y w) : scal v w = true ∧ decide (v = w) = D.eqv x y := by
  cases x <;> cases y <;> simp only [D.scal, D.flat, Bool.and_true, Bool.and_false, Bool.false_eq_true, Bool.true_and, Bool.and_self] at e <;> try (cases e; done)
  · cases h1.nonI; cases h2.nonI; simp [L2.scal, D.eqv, D.py, PyData.eqv]
  · cases h1.nonI; cases h2.blI; simp [L2.scal, D.eqv, D.py, PyData.eqv]
  · cases h1.nonI; cases h2.intI; simp [L2.scal, D.eqv, D.py, PyData.eqv]
  · cases h1.nonI; cases h2.strI; simp [L2.scal, D.eqv, D.py, PyData.eqv]
  · cases h1.blI; cases h2.nonI; simp [L2.scal, D.eqv, D.py, PyData.eqv]
  · cases h1.blI; cases h2.blI; refine ⟨rfl, ?_⟩; rw [dec_bl]; simp [D.eqv, D.py, PyData.eqv]
  · cases h1.blI; cases h2.strI; simp [L2.scal, D.eqv, D.py, PyData.eqv]
  · cases h1.intI; cases h2.nonI; simp [L2.scal, D.eqv, D.py, PyData.eqv]
  · cases h1.intI; cases h2.intI; refine ⟨rfl, ?_⟩; rw [dec_int]; simp [D.eqv, D.py, PyData.eqv]
  · cases h1.intI; cases h2.strI; simp [L2.scal, D.eqv, D.py, PyData.eqv]
  · cases h1.strI; cases h2.nonI; simp [L2.scal, D.eqv, D.py, PyData.eqv]
  · cases h1.strI; cases h2.blI; simp [L2.scal, D.eqv, D.py, PyData.eqv]
  · cases h1.strI; cases h2.intI; simp [L2.scal, D.eqv, D.py, PyData.eqv]
  · cases h1.strI; cases h2.strI; refine ⟨rfl, ?_⟩; rw [dec_str]; simp [D.eqv, D.py, PyData.eqv]
theorem cmp_eq (hK : X.K = W.K) (hu : X.A.units + 300 < cLine) : OpD W X (compareOp .Eq) (fun x y => (cmpD .Eq x y).map fun b => .fr (.bl b)) := by
  intro pins s σ H v w u1 u2 Q I r1 r2 ⟨x, y, t, h1, h2, e, q⟩
  obtain ⟨b, e1, rfl⟩ := map_bl e
  simp only [cmpD, eqD] at e1
  split at e1
  · rename_i hc
    cases e1
    by_cases hs : D.scal x y = true
    · obtain ⟨a1, a2⟩ := scal_eqv hs h1 h2
      refine op_eq pins s σ H v w u1 u2 Q I r1 r2 ⟨a1, ?_⟩
      rw [a2]; exact bl_res q
    · have hs' : D.scal x y = false := by simpa using hs
      rw [hs'] at hc
      simp only [Bool.false_or, Bool.and_eq_true] at hc
      exact op_eqD (by omega) pins s σ H v w u1 u2 Q I r1 r2 ⟨_, _, hK ▸ wplain_dp hc.1 h1, hK ▸ wplain_dp hc.2 h2, plain_shaped hc.1 (by decide), plain_shaped hc.2 (by decide), bl_res q⟩
  · cases e1
theorem cmp_ne (hK : X.K = W.K) (hu : X.A.units + 300 < cLine) : OpD W X (compareOp .NotEq) (fun x y => (cmpD .NotEq x y).map fun b => .fr (.bl b)) := by
  intro pins s σ H v w u1 u2 Q I r1 r2 ⟨x, y, t, h1, h2, e, q⟩
  obtain ⟨b, e1, rfl⟩ := map_bl e
  simp only [cmpD, eqD] at e1
  obtain ⟨b', e2, rfl⟩ := Option.map_eq_some_iff.mp e1
  split at e2
  · rename_i hc
    cases e2
    by_cases hs : D.scal x y = true
    · obtain ⟨a1, a2⟩ := scal_eqv hs h1 h2
      refine op_ne pins s σ H v w u1 u2 Q I r1 r2 ⟨a1, ?_⟩
      rw [a2]; exact bl_res q
    · have hs' : D.scal x y = false := by simpa using hs
      rw [hs'] at hc
      simp only [Bool.false_or, Bool.and_eq_true] at hc
      exact op_neD (by omega) pins s σ H v w u1 u2 Q I r1 r2 ⟨_, _, hK ▸ wplain_dp hc.1 h1, hK ▸ wplain_dp hc.2 h2, plain_shaped hc.1 (by decide), plain_shaped hc.2 (by decide), bl_res q⟩
  · cases e2
theorem cmp_is : OpD W X (compareOp .Is) (fun x y => (cmpD .Is x y).map fun b => .fr (.bl b)) := by
  intro pins s σ H v w u1 u2 Q I r1 r2 ⟨x, y, t, h1, h2, e, q⟩
  obtain ⟨b, e1, rfl⟩ := map_bl e
  cases y <;> simp only [cmpD] at e1 <;> try (cases e1; done)
  cases h2.nonI
  refine op_isN pins s σ H v _ u1 u2 Q I r1 r2 ⟨rfl, ?_⟩
  have : decide (v = .non) = b := by
    cases h1 with
    | rep r => cases r <;> simp at e1 <;> subst e1 <;> simp
    | lst _ _ => simp at e1; subst e1; simp
    | dic _ _ _ => simp at e1; subst e1; simp
    | ins _ _ _ => simp at e1; subst e1; simp
  rw [this]; exact bl_res q
theorem cmp_isnot : OpD W X (compareOp .IsNot) (fun x y => (cmpD .IsNot x y).map fun b => .fr (.bl b)) := by
  intro pins s σ H v w u1 u2 Q I r1 r2 ⟨x, y, t, h1, h2, e, q⟩
  obtain ⟨b, e1, rfl⟩ := map_bl e
  cases y <;> simp only [cmpD] at e1 <;> try (cases e1; done)
  cases h2.nonI
  refine op_notN pins s σ H v _ u1 u2 Q I r1 r2 ⟨rfl, ?_⟩
  have : (!decide (v = .non)) = b := by
    cases h1 with
    | rep r => cases r <;> simp at e1 <;> subst e1 <;> simp
    | lst _ _ => simp at e1; subst e1; simp
    | dic _ _ _ => simp at e1; subst e1; simp
    | ins _ _ _ => simp at e1; subst e1; simp
  rw [this]; exact bl_res q
theorem flat_V {H : Hp} {x : D} {v : V} (e : x.flat = true) (h : WRep W H x v) : flatV v = true := by
  cases x <;> simp only [D.flat, Bool.false_eq_true] at e
  · cases h.nonI; rfl
  · cases h.blI; rfl
  · cases h.intI; rfl
  · cases h.strI; rfl
theorem flat_eqV {H : Hp} {x y : D} {v w : V} (e1 : x.flat = true) (e2 : y.flat = true) (h1 : WRep W H x v) (h2 : WRep W H y w) : eqV v w = D.eqv x y := by
  cases x <;> simp only [D.flat, Bool.false_eq_true] at e1 <;> cases y <;> simp only [D.flat, Bool.false_eq_true] at e2 <;>
    (first | cases h1.nonI | cases h1.blI | cases h1.intI | cases h1.strI) <;> (first | cases h2.nonI | cases h2.blI | cases h2.intI | cases h2.strI) <;> simp [eqV, D.eqv, D.py, PyData.eqv]
theorem flats_V {H : Hp} : ∀ {ds : List D} {vs : List V}, ds.all D.flat = true → Reps W H ds vs → vs.all flatV = true
  | _, _, _, .nil => rfl
  | _, _, e, .cons h r => by
    simp only [List.all_cons, Bool.and_eq_true] at e ⊢
    exact ⟨flat_V e.1 (.rep h), flats_V e.2 r⟩
theorem flats_in {H : Hp} {x : D} {v : V} (e1 : x.flat = true) (h1 : WRep W H x v) : ∀ {ds : List D} {vs : List V}, ds.all D.flat = true → Reps W H ds vs → inV v vs = ds.any fun z => D.eqv z x
  | _, _, _, .nil => rfl
  | _, _, e, .cons h r => by
    simp only [List.all_cons, Bool.and_eq_true] at e
    have ih := flats_in e1 h1 e.2 r
    unfold inV at ih ⊢
    rw [List.any_cons, List.any_cons, flat_eqV e.1 e1 (.rep h) h1, ih]
theorem any_pys {x : D} : ∀ ds : List D, (D.pys ds).any (fun z => PyData.eqv z x.py) = ds.any fun z => D.eqv z x
  | [] => by simp [D.pys]
  | d :: ds => by simp only [D.pys, List.any_cons, any_pys ds, D.eqv]
theorem keyOf_V {H : Hp} {y : D} {u : V} {k : Key} (e : keyOfD y = some k) (h : WRep W H y u) : u = kV k := by
  cases y <;> simp only [keyOfD, Option.some.injEq, reduceCtorEq] at e <;> subst e
  · exact h.intI
  · exact h.strI
theorem WRep.dicI {H : Hp} {v : V} {ks : List Key} {ds : List D} (h : WRep W H (.dic ks ds) v) : ∃ a vs, v = .ref a ∧ Rd H a (.dK (ks.zip vs)) ∧ Reps W H ds vs ∧ ks.length = vs.length := by
  cases h with
  | rep r => cases r with
    | dic h r l => exact ⟨_, _, rfl, .inr h, r, l⟩
  | dic h r l => exact ⟨_, _, rfl, .inl h, r, l⟩
theorem valV_has {k : Key} : ∀ {ks : List Key} {vs : List V}, ks.length = vs.length → (valV (ks.zip vs) k).isSome = hasKey k ks
  | [], [], _ => rfl
  | [], _ :: _, h => by simp at h
  | _ :: _, [], h => by simp at h
  | j :: ks, v :: vs, h => by
    simp only [List.zip_cons_cons]
    by_cases z : j = k
    · rw [valV_pos z]; simp [hasKey, z]
    · rw [valV_neg z, valV_has (by simpa using h)]
      simp [hasKey, z]
theorem cmp_inG (hK : X.K = W.K) (hu : X.A.units + 300 < cLine) {pins : List (Addr × Obj)} {σ : L2.St} {s : Shared} {H : Hp} {v w : V} {u1 u2 : Value} {x y : D} {b : Bool} {Q : VK}
    (I : Inv X pins σ H s) (r1 : RelV v u1) (r2 : RelV w u2) (h1 : WRep W H x v) (h2 : WRep W H y w) (e : inD x y = some b) :
    (Q (.bl b) H → wpAny (model X.prog X.w) X.A (compareOp .In u1 u2) (EP X pins σ Q) X.xe s) ∧ (Q (.bl (!b)) H → wpAny (model X.prog X.w) X.A (compareOp .NotIn u1 u2) (EP X pins σ Q) X.xe s) := by
  cases y <;> simp only [inD] at e <;> try (cases e; done)
  · -- a text
    rename_i z
    cases x <;> simp only at e <;> try (cases e; done)
    rename_i c
    split at e
    · rename_i hl
      cases e
      cases h1.strI
      cases h2.strI
      obtain ⟨⟨l⟩⟩ := c
      have hl' : l.length = 1 := by simpa [Str.length] using hl
      obtain ⟨k, rfl⟩ := List.length_eq_one_iff.mp hl'
      constructor
      · intro q
        exact op_in_sign pins s σ H _ _ u1 u2 Q I r1 r2 ⟨k, z, rfl, rfl, by simpa using q⟩
      · intro q
        exact op_notIn_sign pins s σ H _ _ u1 u2 Q I r1 r2 ⟨k, z, rfl, rfl, by simpa using q⟩
    · cases e
  · -- a tuple
    rename_i ys
    split at e
    · rename_i hc
      cases e
      obtain ⟨a, vs, rfl, ha, ra⟩ := h2.tupI
      rw [← hK] at ha
      by_cases hf : (x.flat && ys.all D.flat) = true
      · have hf2 := Bool.and_eq_true_iff.mp hf
        have e2 := flats_in hf2.1 h1 hf2.2 ra
        constructor
        · intro q
          exact op_in_seq pins s σ H _ _ u1 u2 Q I r1 r2 ⟨a, vs, rfl, .inr ha, flat_V hf2.1 h1, flats_V hf2.2 ra, by simpa [e2] using q⟩
        · intro q
          exact op_notIn_seq pins s σ H _ _ u1 u2 Q I r1 r2 ⟨a, vs, rfl, .inr ha, flat_V hf2.1 h1, flats_V hf2.2 ra, by simpa [e2] using q⟩
      · have hf' : (x.flat && ys.all D.flat) = false := by simpa using hf
        rw [hf'] at hc
        simp only [Bool.false_or, Bool.and_eq_true] at hc
        obtain ⟨as, rd⟩ := Dp.reads I _ _ u1 (hK ▸ wplain_dp hc.1 h1) r1
        have dp : Dp X.K H (.ref a) (.tuple (D.pys ys)) := .tup ha (hK ▸ plains_dp hc.2 ra)
        obtain ⟨bs, rd2⟩ := Dp.reads I _ _ u2 dp r2
        obtain ⟨l1, l2⟩ := plain_lay hc.1
        obtain ⟨m1, m2⟩ := plains_lay hc.2
        have hm := Nat.min_le_right (PyData.depthAll (D.pys ys)) x.py.depth
        constructor
        · intro q
          exact SeqAt.in_tuple_reads rd2 rd m1 l1 (by omega) ⟨.bl _, H, I, rfl, by rw [any_pys]; exact q⟩
        · intro q
          exact SeqAt.notIn_tuple_reads rd2 rd m1 l1 (by omega) ⟨.bl _, H, I, rfl, by rw [any_pys]; exact q⟩
    · cases e
  · -- a list
    rename_i ys
    split at e
    · rename_i hc
      cases e
      obtain ⟨a, vs, rfl, ha, ra⟩ := h2.lstI
      rw [← hK] at ha
      by_cases hf : (x.flat && ys.all D.flat) = true
      · have hf2 := Bool.and_eq_true_iff.mp hf
        have e2 := flats_in hf2.1 h1 hf2.2 ra
        constructor
        · intro q
          exact op_in_seq pins s σ H _ _ u1 u2 Q I r1 r2 ⟨a, vs, rfl, .inl ha, flat_V hf2.1 h1, flats_V hf2.2 ra, by simpa [e2] using q⟩
        · intro q
          exact op_notIn_seq pins s σ H _ _ u1 u2 Q I r1 r2 ⟨a, vs, rfl, .inl ha, flat_V hf2.1 h1, flats_V hf2.2 ra, by simpa [e2] using q⟩
      · have hf' : (x.flat && ys.all D.flat) = false := by simpa using hf
        rw [hf'] at hc
        simp only [Bool.false_or, Bool.and_eq_true] at hc
        obtain ⟨as, rd⟩ := Dp.reads I _ _ u1 (hK ▸ wplain_dp hc.1 h1) r1
        have dp : Dp X.K H (.ref a) (.list (D.pys ys)) := .lst ha (hK ▸ plains_dp hc.2 ra)
        obtain ⟨bs, rd2⟩ := Dp.reads I _ _ u2 dp r2
        obtain ⟨l1, l2⟩ := plain_lay hc.1
        obtain ⟨m1, m2⟩ := plains_lay hc.2
        have hm := Nat.min_le_right (PyData.depthAll (D.pys ys)) x.py.depth
        constructor
        · intro q
          exact SeqAt.in_list_reads rd2 rd m1 l1 (by omega) ⟨.bl _, H, I, rfl, by rw [any_pys]; exact q⟩
        · intro q
          exact SeqAt.notIn_list_reads rd2 rd m1 l1 (by omega) ⟨.bl _, H, I, rfl, by rw [any_pys]; exact q⟩
    · cases e
  · -- a dict
    rename_i ks ds
    obtain ⟨k, e1, rfl⟩ := Option.map_eq_some_iff.mp e
    obtain ⟨a, vs, rfl, ha, ra, hl⟩ := h2.dicI
    cases keyOf_V e1 h1
    cases (show u2 = Value.ref a from r2)
    have hs := valV_has (k := k) hl
    constructor
    · intro q
      refine d_in (o := valV (ks.zip vs) k) (by omega) I (.inl ⟨_, k, ha, rfl, rfl⟩) r1 fun s' I' => ?_
      rw [hs]
      exact ⟨.bl _, H, I', rfl, q⟩
    · intro q
      refine d_notIn (o := valV (ks.zip vs) k) (by omega) I (.inl ⟨_, k, ha, rfl, rfl⟩) r1 fun s' I' => ?_
      rw [hs]
      exact ⟨.bl _, H, I', rfl, q⟩
theorem cmp_ord {op : CmpOp} {p : Int → Int → Bool} (ho : OpR X (compareOp op) (rI0 fun i j => .bl (p i j))) (hp : ∀ x y b, cmpD op x y = some b → ∃ i j, x = .int i ∧ y = .int j ∧ b = p i j) :
    OpD W X (compareOp op) (fun x y => (cmpD op x y).map fun b => .fr (.bl b)) := by
  intro pins s σ H v w u1 u2 Q I r1 r2 ⟨x, y, t, h1, h2, e, q⟩
  obtain ⟨b, e1, rfl⟩ := map_bl e
  obtain ⟨i, j, rfl, rfl, rfl⟩ := hp x y b e1
  cases h1.intI; cases h2.intI
  exact ho pins s σ H _ _ u1 u2 Q I r1 r2 ⟨i, j, rfl, rfl, bl_res q⟩
theorem cmp_all (hK : X.K = W.K) (hu : X.A.units + 300 < cLine) : ∀ op, OpD W X (compareOp op) (fun x y => (cmpD op x y).map fun b => .fr (.bl b)) := by
  intro op
  cases op
  case Eq => exact cmp_eq hK hu
  case NotEq => exact cmp_ne hK hu
  case Is => exact cmp_is
  case IsNot => exact cmp_isnot
  case Lt => exact cmp_ord op_lt fun x y b e => by cases x <;> cases y <;> simp [cmpD] at e; exact ⟨_, _, rfl, rfl, e.symm⟩
  case LtE => exact cmp_ord op_le fun x y b e => by cases x <;> cases y <;> simp [cmpD] at e; exact ⟨_, _, rfl, rfl, e.symm⟩
  case Gt => exact cmp_ord op_gt fun x y b e => by cases x <;> cases y <;> simp [cmpD] at e; exact ⟨_, _, rfl, rfl, e.symm⟩
  case GtE => exact cmp_ord op_ge fun x y b e => by cases x <;> cases y <;> simp [cmpD] at e; exact ⟨_, _, rfl, rfl, e.symm⟩
  case In =>
    intro pins s σ H v w u1 u2 Q I r1 r2 ⟨x, y, t, h1, h2, e, q⟩
    obtain ⟨b, e1, rfl⟩ := map_bl e
    exact (cmp_inG hK hu I r1 r2 h1 h2 e1).1 (bl_res q)
  case NotIn =>
    intro pins s σ H v w u1 u2 Q I r1 r2 ⟨x, y, t, h1, h2, e, q⟩
    obtain ⟨b, e1, rfl⟩ := map_bl e
    simp only [cmpD] at e1
    obtain ⟨b', e2, rfl⟩ := Option.map_eq_some_iff.mp e1
    exact (cmp_inG hK hu I r1 r2 h1 h2 e2).2 (bl_res q)
/-- truth -/
theorem truth_V {H : Hp} {x : D} {v : V} {k : Bool} (hK : X.K = W.K) (e : x.truth = some k) (h : WRep W H x v) : TruV X.K v H k := by
  cases x <;> simp only [D.truth, Option.some.injEq, reduceCtorEq] at e
  · cases h.nonI; exact e.symm
  · cases h.blI; exact e.symm
  · cases h.intI; exact e.symm
  · rename_i s
    cases h.strI
    split at e
    · rename_i hf
      refine ⟨fits_le hf, ?_⟩
      rw [← Option.some.inj e]
      simp only [bne]
      by_cases z : s.length = 0 <;> simp [z]
    · cases e
  · obtain ⟨a, vs, rfl, ha, ra⟩ := h.tupI
    refine .inr (.inl ⟨vs, hK ▸ ha, ?_⟩)
    rw [← e]; cases ra <;> rfl
  · obtain ⟨a, vs, rfl, ha, ra⟩ := h.lstI
    refine .inl ⟨vs, hK ▸ ha, ?_⟩
    rw [← e]; cases ra <;> rfl
end
end Eg
set_option Elab.async false
set_option linter.all false
set_option maxRecDepth 100000
set_option maxHeartbeats 4000000
/-! the engine: expressions, construct by construct -/
namespace Eg
open PySem PySem.Spec PyProof.Rows L2

structure GX (W : Wd) (Wx : WX) (X : Cx) : Prop where
  hK : X.K = W.K
  calm : X.calm = true
  nd : X.N.Nodup
  tk : Takes X Wx
  hu : X.A.units + 300 < cLine
  hg : X.A.guards = some []

section
variable {W : Wd} {Wx : WX} {X : Cx} {pos : Pos}
theorem set_same {σ : L2.St} {i : Nat} {o : Option V} (h : σ[i]? = some o) : σ.set i o = σ := by
  apply List.ext_getElem?
  intro j
  by_cases z : i = j
  · subst z; rw [List.getElem?_set_self (List.getElem?_eq_some_iff.mp h).1, h]
  · rw [List.getElem?_set_ne z]
theorem Rel.val {C : Fx} {ρ : Env} {σ : L2.St} {H : Hp} {i : Nat} {d : D} (h : Rel W C ρ σ H) (e : ρ[i]? = some (.val d)) : ∃ v, σ[i]? = some (some v) ∧ Rep W H d v := by
  obtain ⟨fp, h⟩ := h
  obtain ⟨o, f1, f2, f3, h1, _, h3, _⟩ := h.slots.at e
  cases h3 with
  | val r => exact ⟨_, h1, r⟩
theorem Rel.ownAt {C : Fx} {ρ : Env} {σ : L2.St} {H : Hp} {i : Nat} {t : T} (h : Rel W C ρ σ H) (e : ρ[i]? = some (.own t)) : ∃ v fp, σ[i]? = some (some v) ∧ Own W H t v fp := by
  obtain ⟨fp, h⟩ := h
  obtain ⟨o, f1, f2, f3, h1, _, h3, _⟩ := h.slots.at e
  cases h3 with
  | own r => exact ⟨_, _, h1, r⟩

theorem sb_const {e : Expr} {v : V} {d : D} (h : PE X e (tC v)) (r : ∀ H, Rep W H d v) : PE X e (tE W Wx fun ρ => .ok (.fr d) ρ) :=
  h.mono fun σ H Q ⟨C, ρ, rel, q⟩ => q v H (Ext.refl H) (rel.relT (r H))
theorem sb_var {i : Nat} {x : Str} (hN : X.N[i]? = some x) (hv : Vis X.env.scope x) (hd : (x == ("__debug__" : Str)) = false) (hcd : (x == ("__classdict__" : Str)) = false) {S : Stat} {R : D → Option Str} {F : Nat → Env → OutF} :
    PE X (.Name x pos) (tE W Wx fun ρ => evE S R F (.var i) ρ) := by
  refine ⟨fun pins s σ H Q I ⟨C, ρ, rel, q⟩ => ?_⟩
  simp only [evE] at q
  cases e : ρ[i]? with
  | none => rw [e] at q; exact q.elim
  | some sl =>
    rw [e] at q
    cases sl with
    | unb => exact q.elim
    | val d =>
      obtain ⟨v, h1, h2⟩ := rel.val e
      exact (pe_var hN hv hd hcd).run pins s σ H Q I ⟨v, h1, q v H (Ext.refl H) (rel.relT h2)⟩
    | own t =>
      obtain ⟨v, H', h1, I', ex, rl, rp⟩ := rel.freezeAt I e
      exact (pe_var hN hv hd hcd).run pins s σ H' Q I' ⟨v, h1, q v H' ex (rl.relT rp)⟩
theorem sb_bvar {i : Nat} {x : Str} (hN : X.N[i]? = some x) (hv : Vis X.env.scope x) (hd : (x == ("__debug__" : Str)) = false) (hcd : (x == ("__classdict__" : Str)) = false) :
    PE X (.Name x pos) (tBo W Wx fun ρ => lookV ρ i) := by
  refine ⟨fun pins s σ H Q I ⟨C, ρ, rel, q⟩ => ?_⟩
  simp only [lookV] at q
  cases e : ρ[i]? with
  | none => rw [e] at q; exact q.elim
  | some sl =>
    rw [e] at q
    cases sl with
    | unb => exact q.elim
    | val d =>
      obtain ⟨v, h1, h2⟩ := rel.val e
      exact (pe_var hN hv hd hcd).run pins s σ H Q I ⟨v, h1, q v H (Ext.refl H) rel ⟨[], .fr h2⟩⟩
    | own t =>
      obtain ⟨v, fp, h1, h2⟩ := rel.ownAt e
      exact (pe_var hN hv hd hcd).run pins s σ H Q I ⟨v, h1, q v H (Ext.refl H) rel ⟨fp, h2⟩⟩

/-- the ways out of wE -/
theorem wE_x {C : Fx} {σ : L2.St} {Q : VK} : ∀ d ρ H, wE W C Wx (.exc d ρ) σ H Q → xWay W C Wx d ρ σ H := fun _ _ _ h => h
theorem wE_b {C : Fx} {σ : L2.St} {Q : VK} : ∀ H, ¬ wE W C Wx .bad σ H Q := fun _ h => h
theorem wE_m {C : Fx} {σ : L2.St} {Q : VK} : ∀ o H H1, Ext H H1 → wE W C Wx o σ H Q → wE W C Wx o σ H1 Q := fun _ _ _ e h => wE.mono e h
theorem wT_x {C : Fx} {σ : L2.St} {Q : Bool → Hp → Prop} : ∀ d ρ H, wT W C Wx (.exc d ρ) σ H Q → xWay W C Wx d ρ σ H := fun _ _ _ h => h
theorem wT_b {C : Fx} {σ : L2.St} {Q : Bool → Hp → Prop} : ∀ H, ¬ wT W C Wx .bad σ H Q := fun _ h => h
theorem wT_m {C : Fx} {σ : L2.St} {Q : Bool → Hp → Prop} : ∀ o H H1, Ext H H1 → wT W C Wx o σ H Q → wT W C Wx o σ H1 Q := fun _ _ _ e h => wT.mono e h
theorem wDs_x {C : Fx} {σ : L2.St} {Q : List V → Hp → Prop} : ∀ d ρ H, wDs W C Wx (.exc d ρ) σ H Q → xWay W C Wx d ρ σ H := fun _ _ _ h => h
theorem wDs_b {C : Fx} {σ : L2.St} {Q : List V → Hp → Prop} : ∀ H, ¬ wDs W C Wx .bad σ H Q := fun _ h => h
theorem wDs_m {C : Fx} {σ : L2.St} {Q : List V → Hp → Prop} : ∀ o H H1, Ext H H1 → wDs W C Wx o σ H Q → wDs W C Wx o σ H1 Q := fun _ _ _ e h => wDs.mono e h

variable {a b c : Expr} {ea eb ec : Env → Out D}
theorem sb_op {f : Value → Value → Sem Value} {op : D → D → Option T} {E : Expr} (ho : OpD W X f op)
    (hE : ∀ {r : R2} {ta tb : TE}, OpR X f r → PE X a ta → PE X b tb → PE X E (tOp r ta tb)) (ha : PE X a (tD W Wx ea)) (hb : PE X b (tD W Wx eb)) :
    PE X E (tE W Wx fun ρ => (ea ρ).bind fun x ρ => (eb ρ).bind fun y ρ => Out.of ρ (op x y)) := by
  refine (hE ho ha hb).mono fun σ H Q ⟨C, ρ, rel, q⟩ => ⟨C, ρ, rel, ?_⟩
  refine wD_bind wE_x wE_b wE_m q fun x ρ1 v H1 e1 r1 p1 q1 => ⟨C, ρ1, r1, ?_⟩
  refine wD_bind wE_x wE_b wE_m q1 fun y ρ2 w H2 e2 r2 p2 q2 => ?_
  cases eo : op x y with
  | none => rw [eo] at q2; exact q2.elim
  | some t =>
    rw [eo] at q2
    exact ⟨x, y, t, .rep (p1.ext e2), .rep p2, eo, fun u H3 rs => let ⟨k1, k2⟩ := rs.rel r2; q2 u H3 k1 k2⟩
theorem sb_bin {op : Operator} (g : GX W Wx X) (ha : PE X a (tD W Wx ea)) (hb : PE X b (tD W Wx eb)) :
    PE X (.BinOp a op b pos) (tE W Wx fun ρ => (ea ρ).bind fun x ρ => (eb ρ).bind fun y ρ => Out.of ρ (binD op x y)) :=
  sb_op (bin_all g.hK op) (fun h1 h2 h3 => pe_op h1 h2 h3) ha hb
theorem sb_neg (ha : PE X a (tD W Wx ea)) : PE X (.UnaryOp .USub a pos) (tE W Wx fun ρ => bindI (ea ρ) fun i ρ => .ok (.fr (.int (-i))) ρ) := by
  refine (pe_un un_neg ha).mono fun σ H Q ⟨C, ρ, rel, q⟩ => ⟨C, ρ, rel, ?_⟩
  refine wD_bind wE_x wE_b wE_m q fun x ρ1 v H1 e1 r1 p1 q1 => ?_
  cases x with
  | int i => cases p1; exact ⟨i, rfl, q1 _ H1 (Ext.refl _) (r1.relT (.int _))⟩
  | _ => exact q1.elim
theorem nomarks {op : CmpOp} (h : ∀ elts k p, b ≠ .Set elts k p) : behindInMarks op b = false := by
  cases b <;> first | rfl | exact absurd rfl (h _ _ _)
/-- a comparison: the right side is looked at alone -/
theorem sb_cmp {op : CmpOp} {eb : Env → Out T} (g : GX W Wx X) (hm : behindInMarks op b = false) (ha : PE X a (tD W Wx ea)) (hb : PE X b (tBo W Wx eb)) :
    PE X (.Compare a [op] [b] pos) (tE W Wx fun ρ => (ea ρ).bind fun x ρ => (eb ρ).bind fun y ρ => Out.of ρ ((y.shal.bind fun y => cmpD op x y).map fun b => .fr (.bl b))) := by
  refine (pe_cmpR (cmp_all g.hK g.hu op) ha hb hm).mono fun σ H Q ⟨C, ρ, rel, q⟩ => ⟨C, ρ, rel, ?_⟩
  refine wD_bind wE_x wE_b wE_m q fun x ρ1 v H1 e1 r1 p1 q1 => ⟨C, ρ1, r1, ?_⟩
  refine wB_bind wE_x wE_b wE_m q1 fun y ρ2 w H2 e2 r2 ⟨fp, p2⟩ q2 => ?_
  cases es : y.shal with
  | none => rw [es] at q2; exact q2.elim
  | some y' =>
    simp only [es, Option.bind_some] at q2
    cases eo : cmpD op x y' with
    | none => rw [eo] at q2; exact q2.elim
    | some t =>
      rw [eo] at q2
      exact ⟨x, y', .fr (.bl t), .rep (p1.ext e2), shal_wrep es p2, by show Option.map _ (cmpD op x y') = _; rw [eo]; rfl, fun u H3 rs => let ⟨k1, k2⟩ := rs.rel r2; q2 u H3 k1 k2⟩
theorem sb_cmpT {op : CmpOp} {eb : Env → Out T} (g : GX W Wx X) (hm : behindInMarks op b = false) (ha : PE X a (tD W Wx ea)) (hb : PE X b (tBo W Wx eb)) :
    PT X (.Compare a [op] [b] pos) (tTe W Wx fun ρ => (freezeO ((ea ρ).bind fun x ρ => (eb ρ).bind fun y ρ => Out.of ρ ((y.shal.bind fun y => cmpD op x y).map fun b => .fr (.bl b)))).bind fun x ρ => Out.of ρ x.truth) := by
  refine (pt_cmpR (cmp_all g.hK g.hu op) ha hb hm).mono fun σ H Q ⟨C, ρ, rel, q⟩ => ⟨C, ρ, rel, ?_⟩
  cases eo : ea ρ with
  | bad => simp only [eo, Out.bind, freezeO] at q; exact q.elim
  | exc d ρ1 => simp only [eo, Out.bind, freezeO] at q; exact q
  | ok x ρ1 =>
    simp only [eo, Out.bind] at q
    intro v H1 e1 r1 p1
    refine ⟨C, ρ1, r1, ?_⟩
    cases eo2 : eb ρ1 with
    | bad => simp only [eo2, Out.bind, freezeO] at q; exact q.elim
    | exc d ρ2 => simp only [eo2, Out.bind, freezeO] at q; exact xWay.mono e1 q
    | ok y ρ2 =>
      simp only [eo2] at q
      intro w H2 e2 r2 ⟨fp, p2⟩
      cases es : y.shal with
      | none => simp only [es, Option.bind_none, Option.map_none, Out.of, freezeO, Out.bind] at q; exact q.elim
      | some y' =>
        simp only [es, Option.bind_some] at q
        cases ec : cmpD op x y' with
        | none => simp only [ec, Option.map_none, Out.of, freezeO, Out.bind] at q; exact q.elim
        | some t =>
          simp only [ec, Option.map_some, Out.of, freezeO, Out.bind, T.toD, D.truth] at q
          refine ⟨x, y', .fr (.bl t), .rep (p1.ext e2), shal_wrep es p2, by show Option.map _ (cmpD op x y') = _; rw [ec]; rfl, fun u H3 rs => ?_⟩
          rcases rs with ⟨rfl, d, e, rp⟩ | ⟨p, o, _, _, _, rfl, ⟨d, e, rp⟩ | rp⟩
          · cases e; cases rp
            exact ⟨t, rfl, q _ (e1.trans e2) r2⟩
          · cases e; cases rp
          · cases rp
/-- a test by the value's truth -/
theorem sb_truth (g : GX W Wx X) (ha : PE X a (tD W Wx ea)) (he : ∀ whole, isTrue a X.env whole = (do let v ← whole; standAt a.pos; holding [v] (truthy v))) :
    PT X a (tTe W Wx fun ρ => (ea ρ).bind fun x ρ => Out.of ρ x.truth) := by
  refine (pt_truth ha he).mono fun σ H Q ⟨C, ρ, rel, q⟩ => ⟨C, ρ, rel, ?_⟩
  refine wD_bind wT_x wT_b wT_m q fun x ρ1 v H1 e1 r1 p1 q1 => ?_
  cases et : x.truth with
  | none => rw [et] at q1; exact q1.elim
  | some k => rw [et] at q1; exact ⟨k, truth_V g.hK et (.rep p1), q1 H1 (Ext.refl _) r1⟩
variable {ta tb : Env → Out Bool} {rest : List Expr}
theorem sb_notT (ha : PT X a (tTe W Wx ta)) : PT X (.UnaryOp .Not a pos) (tTe W Wx fun ρ => (ta ρ).bind fun b ρ => .ok (!b) ρ) := by
  refine (pt_not ha).mono fun σ H Q ⟨C, ρ, rel, q⟩ => ⟨C, ρ, rel, ?_⟩
  exact wT_bind wT_x wT_b wT_m q fun k ρ1 H1 e1 r1 q1 => q1 H1 (Ext.refl _) r1
theorem sb_andT (ha : PT X a (tTe W Wx ta)) (hb : PW X (.BoolOp .And (b :: rest) pos) (tTe W Wx tb)) : PW X (.BoolOp .And (a :: b :: rest) pos) (tTe W Wx fun ρ => (ta ρ).bind fun k ρ => if k then tb ρ else .ok false ρ) := by
  refine ⟨fun wh pins s σ H Q I ⟨C, ρ, rel, q⟩ => (pw_and ha hb).run wh pins s σ H Q I ⟨C, ρ, rel, ?_⟩⟩
  refine wT_bind wT_x wT_b wT_m q fun k ρ1 H1 e1 r1 q1 => ?_
  cases k with
  | true => exact ⟨C, ρ1, r1, q1⟩
  | false => exact q1 H1 (Ext.refl _) r1
theorem sb_orT (ha : PT X a (tTe W Wx ta)) (hb : PW X (.BoolOp .Or (b :: rest) pos) (tTe W Wx tb)) : PW X (.BoolOp .Or (a :: b :: rest) pos) (tTe W Wx fun ρ => (ta ρ).bind fun k ρ => if k then .ok true ρ else tb ρ) := by
  refine ⟨fun wh pins s σ H Q I ⟨C, ρ, rel, q⟩ => (pw_or ha hb).run wh pins s σ H Q I ⟨C, ρ, rel, ?_⟩⟩
  refine wT_bind wT_x wT_b wT_m q fun k ρ1 H1 e1 r1 q1 => ?_
  cases k with
  | true => exact q1 H1 (Ext.refl _) r1
  | false => exact ⟨C, ρ1, r1, q1⟩
/-- not a, as a value -/
theorem sb_not (g : GX W Wx X) (ha : PE X a (tD W Wx ea)) : PE X (.UnaryOp .Not a pos) (tE W Wx fun ρ => (ea ρ).bind fun x ρ => Out.of ρ (x.truth.map fun b => .fr (.bl (!b)))) := by
  refine (pe_notT ha).mono fun σ H Q ⟨C, ρ, rel, q⟩ => ⟨C, ρ, rel, ?_⟩
  refine wD_bind wE_x wE_b wE_m q fun x ρ1 v H1 e1 r1 p1 q1 => ?_
  cases et : x.truth with
  | none => rw [et] at q1; exact q1.elim
  | some k =>
    rw [et] at q1
    exact ⟨k, truth_V g.hK et (.rep p1), q1 _ H1 (Ext.refl _) (r1.relT (.bl _))⟩
variable {va vb vc : Env → Out T}
theorem sb_ite (hc : PT X c (tTe W Wx ta)) (ha : PE X a (tE W Wx va)) (hb : PE X b (tE W Wx vb)) : PE X (.IfExp c a b pos) (tE W Wx fun ρ => (ta ρ).bind fun k ρ => if k then va ρ else vb ρ) := by
  refine (pe_ifExp hc ha hb).mono fun σ H Q ⟨C, ρ, rel, q⟩ => ⟨C, ρ, rel, ?_⟩
  refine wT_bind wE_x wE_b wE_m q fun k ρ1 H1 e1 r1 q1 => ?_
  cases k with
  | true => exact ⟨C, ρ1, r1, q1⟩
  | false => exact ⟨C, ρ1, r1, q1⟩
theorem sb_and (g : GX W Wx X) (ha : PE X a (tD W Wx ea)) (hb : PE X (.BoolOp .And (b :: rest) pos) (tE W Wx vb)) : PE X (.BoolOp .And (a :: b :: rest) pos) (tE W Wx fun ρ => (ea ρ).bind fun x ρ => match x.truth with
    | some true => vb ρ
    | some false => .ok (.fr x) ρ
    | none => .bad) := by
  refine (pe_andT ha hb).mono fun σ H Q ⟨C, ρ, rel, q⟩ => ⟨C, ρ, rel, ?_⟩
  refine wD_bind wE_x wE_b wE_m q fun x ρ1 v H1 e1 r1 p1 q1 => ?_
  cases et : x.truth with
  | none => rw [et] at q1; exact q1.elim
  | some k =>
    rw [et] at q1
    refine ⟨k, truth_V g.hK et (.rep p1), ?_⟩
    cases k with
    | true => exact ⟨C, ρ1, r1, q1⟩
    | false => exact q1 v H1 (Ext.refl _) (r1.relT p1)
theorem sb_or (g : GX W Wx X) (ha : PE X a (tD W Wx ea)) (hb : PE X (.BoolOp .Or (b :: rest) pos) (tE W Wx vb)) : PE X (.BoolOp .Or (a :: b :: rest) pos) (tE W Wx fun ρ => (ea ρ).bind fun x ρ => match x.truth with
    | some true => .ok (.fr x) ρ
    | some false => vb ρ
    | none => .bad) := by
  refine (pe_orT ha hb).mono fun σ H Q ⟨C, ρ, rel, q⟩ => ⟨C, ρ, rel, ?_⟩
  refine wD_bind wE_x wE_b wE_m q fun x ρ1 v H1 e1 r1 p1 q1 => ?_
  cases et : x.truth with
  | none => rw [et] at q1; exact q1.elim
  | some k =>
    rw [et] at q1
    refine ⟨k, truth_V g.hK et (.rep p1), ?_⟩
    cases k with
    | true => exact q1 v H1 (Ext.refl _) (r1.relT p1)
    | false => exact ⟨C, ρ1, r1, q1⟩
end
end Eg
set_option Elab.async false
set_option linter.all false
set_option maxRecDepth 100000
set_option maxHeartbeats 4000000
/-! the engine: an object that is being made while parts are reckoned; displays, argument lists, built-in calls -/
namespace Eg
open PySem PySem.Spec PyProof.Rows L2

section
variable {W : Wd} {C : Fx} {ρ : Env} {σ : L2.St} {H : Hp} {fp : List Addr} {p : Addr} {o o0 : HO}
/-- steps from here on: their ground is the heap as it is -/
theorem RelP.base {ex : List Addr} (h : RelP W C ρ σ H fp ex) : Rel W ⟨H, fp, C.fix⟩ ρ σ H :=
  ⟨fp, h.slots, by simpa using (List.nodup_append.mp h.nd).1, fun a m => .inl (by simpa using m), fun _ _ e _ _ => e, fun _ e => e, h.fix, h.tabs⟩
theorem RelP.back {ex : List Addr} (h : RelP W C ρ σ H fp ex) (lv : ∀ a ∈ ex, Live H a) {ρ2 : Env} {σ2 : L2.St} {H2 : Hp} (r : Rel W ⟨H, fp, C.fix⟩ ρ2 σ2 H2) :
    (∀ a ∈ ex, H2 a = H a) ∧ ∃ fp2, RelP W C ρ2 σ2 H2 fp2 ex := by
  obtain ⟨fp2, r⟩ := r
  obtain ⟨n1, n2, n3⟩ := List.nodup_append.mp h.nd
  have ke : ∀ a ∈ ex, H2 a = H a := fun a m => by
    have hn : a ∉ fp := fun z => n3 a z a m rfl
    rcases lv a m with ⟨_, e⟩ | ⟨_, e⟩ | ⟨_, _, _, e⟩ <;> rw [e] <;> exact r.frame a _ e hn (fun _ z => nomatch z)
  refine ⟨ke, fp2, r.slots, ?_, fun a m => ?_, fun b u q n nt => ?_, fun b q => r.dom b (h.dom b q), r.fix, r.tabs⟩
  · refine List.nodup_append.mpr ⟨by simpa using r.nd, n2, fun a m b m2 z => ?_⟩
    subst z
    rcases r.own a (by simp [m]) with y | y
    · exact n3 a y a m2 rfl
    · obtain ⟨u, e, _⟩ := (lv a m2).some
      have y : H a = none := y
      rw [e] at y; cases y
  · rcases List.mem_append.mp m with m | m
    · rcases r.own a (by simp [m]) with y | y
      · exact h.own a (by simp [y])
      · exact .inr (h.fresh y)
    · exact h.own a (by simp [m])
  · refine r.frame b u (h.frame b u q n nt) (fun z => ?_) nt
    rcases h.own b (by simp [z]) with y | y
    · exact n y
    · rw [q] at y; cases y
/-- a new object, open for what comes -/
theorem Rel.opened (h : Rel W C ρ σ H) (hp : H p = none) (nt : ∀ ps, o ≠ .tbl ps) : ∃ fp, RelP W C ρ σ (upd H p o) fp [p] := by
  obtain ⟨fp, h⟩ := h
  have h2 := h.new hp nt
  refine ⟨fp, h2.slots, ?_, fun a m => ?_, h2.frame, h2.dom, h2.fix, h2.tabs⟩
  · refine List.nodup_append.mpr ⟨by simpa using h.nd, by simp, fun a m b m2 => ?_⟩
    have e : b = p := by simpa using m2
    subst e
    obtain ⟨u, q, _⟩ := (h.slots.live a m).some
    exact ne_of_none q hp
  · rcases List.mem_append.mp m with m | m
    · exact h.own a (by simp [m])
    · have e : a = p := by simpa using m
      rw [e]; exact .inr (h.fresh hp)
/-- it is written -/
theorem RelP.write {ex : List Addr} (h : RelP W C ρ σ H fp ex) (hp : p ∈ ex) (lv : Live H p) (nt : ∀ ps, o ≠ .tbl ps) : RelP W C ρ σ (upd H p o) fp ex := by
  have e : Ext H (upd H p o) := Ext.upd lv
  obtain ⟨n1, n2, n3⟩ := List.nodup_append.mp h.nd
  refine ⟨h.slots.ext e fun a m => upd_ne (n3 a m p hp), h.nd, h.own, fun b u q n nt' => ?_, fun b q => ?_, h.fix, Tabs.keep h.tabs e fun b ps q => ?_⟩
  · have hb : b ≠ p := fun z => by
      rcases h.own p (by simp [hp]) with y | y
      · exact n (z ▸ y)
      · rw [z, y] at q; cases q
    rw [upd_ne hb]; exact h.frame b u q n nt'
  · by_cases z : b = p
    · rw [z, upd_same]; exact fun z => nomatch z
    · rw [upd_ne z]; exact h.dom b q
  · rw [upd_ne fun z => ?_]; exact q
    rw [z] at q
    rcases lv with ⟨_, y⟩ | ⟨_, y⟩ | ⟨_, _, _, y⟩ <;> rw [q] at y <;> cases y
theorem RelP.close {t : T} {v : V} {ft : List Addr} (h : RelP W C ρ σ H fp ft) (q : Own W H t v ft) : RelT W C ρ σ H t v := ⟨fp, ft, q, h⟩
theorem RelP.plain {ex : List Addr} (h : RelP W C ρ σ H fp ex) : Rel W C ρ σ H := by
  refine ⟨fp, h.slots, by simpa using (List.nodup_append.mp h.nd).1, fun a m => h.own a (by simp at m; simp [m]), h.frame, h.dom, h.fix, h.tabs⟩
end

section
variable {W : Wd} {Wx : WX} {X : Cx} {pos : Pos}
theorem plain_star {e : Expr} {es : List Expr} {env : PySem.Env} (h : ∀ a p, e ≠ .Starred a p) : starEach (e :: es) env = (false, eval e env) :: starEach es env := by
  cases e <;> first | rfl | exact absurd rfl (h _ _)
theorem sb_nil : PA X [] (tDs W Wx fun ρ => .ok [] ρ) :=
  pa_nil.mono fun σ H Q ⟨C, ρ, rel, q⟩ => q [] H (Ext.refl _) rel .nil
theorem sb_cons {e : Expr} {es : List Expr} {ea : Env → Out D} {er : Env → Out (List D)} (hs : ∀ a p, e ≠ .Starred a p) (ha : PE X e (tD W Wx ea)) (hr : PA X es (tDs W Wx er)) :
    PA X (e :: es) (tDs W Wx fun ρ => (ea ρ).bind fun x ρ => (er ρ).bind fun ds ρ => .ok (x :: ds) ρ) := by
  refine (pa_cons ha hr (plain_star hs)).mono fun σ H Q ⟨C, ρ, rel, q⟩ => ⟨C, ρ, rel, ?_⟩
  refine wD_bind wDs_x wDs_b wDs_m q fun x ρ1 v H1 e1 r1 p1 q1 => ⟨C, ρ1, r1, ?_⟩
  refine wDs_bind wDs_x wDs_b wDs_m q1 fun ds ρ2 vs H2 e2 r2 p2 q2 => ?_
  exact q2 (v :: vs) H2 (Ext.refl _) r2 (.cons (p1.ext e2) p2)
variable {es : List Expr} {er : Env → Out (List D)}
/-- a display, told with the new tuple -/
theorem pe_tupN {t : TA} {k : Nat} (h : PA X es t) : PE X (.Tuple es k pos) (fun σ H Q => t σ H fun xs H1 => xs.length ≤ sizeLine ∧ ∀ p o, H1 p = none → o.dict = none → Q (.ref p) (upd H1 p (.frz o (.tup xs)))) := by
  refine ⟨fun pins s σ H Q I hq => wpAny_Tuple_spliced (thn (h.run pos pins s σ H _ I hq) ?_)⟩
  rintro us s1 ⟨xs, H1, I1, r, z, q⟩
  obtain ⟨o, ho, hf, J⟩ := laidN (t' := s1.toks) I1 r z
  exact ⟨by rw [← r.length]; exact z, .ref s1.heap.objs.size, _, J, rfl, q _ o hf ho⟩
theorem sb_tup {k : Nat} (h : PA X es (tDs W Wx er)) : PE X (.Tuple es k pos) (tE W Wx fun ρ => (er ρ).bind fun ds ρ => if fits ds.length then .ok (.fr (.tup ds)) ρ else .bad) := by
  refine (pe_tupN h).mono fun σ H Q ⟨C, ρ, rel, q⟩ => ⟨C, ρ, rel, ?_⟩
  refine wDs_bind wE_x wE_b wE_m q fun ds ρ1 vs H1 e1 r1 p1 q1 => ?_
  split at q1
  · rename_i hf
    refine ⟨by rw [← p1.length]; exact fits_le hf, fun p o hp ho => ?_⟩
    obtain ⟨k1, k2⟩ := (ResT.newTup hp ho p1).rel r1
    exact q1 _ _ k1 k2
  · exact q1.elim
theorem sb_lst (h : PA X es (tDs W Wx er)) : PE X (.List es pos) (tE W Wx fun ρ => (er ρ).bind fun ds ρ => if fits ds.length then .ok (.lst (ds.map .fr)) ρ else .bad) := by
  refine (pe_lst h).mono fun σ H Q ⟨C, ρ, rel, q⟩ => ⟨C, ρ, rel, ?_⟩
  refine wDs_bind wE_x wE_b wE_m q fun ds ρ1 vs H1 e1 r1 p1 q1 => ?_
  split at q1
  · rename_i hf
    refine ⟨by rw [← p1.length]; exact fits_le hf, fun p hp => ?_⟩
    obtain ⟨k1, k2⟩ := (ResT.newLst hp p1).rel r1
    exact q1 _ _ k1 k2
  · exact q1.elim

/-! ### built-in calls -/
/-- a call of a built-in, by what it is on data -/
def CallD (W : Wd) (X : Cx) (f : Value) (op : List D → Option T) : Prop :=
  CallR X f fun vs H Q => ∃ ds t, WReps W H ds vs ∧ op ds = some t ∧ ∀ u H', ResT W H t u H' → Q u H'
theorem wreps1 {H : Hp} {x : D} {vs : List V} (h : WReps W H [x] vs) : ∃ v, vs = [v] ∧ WRep W H x v := by
  cases h with
  | cons h r => cases r; exact ⟨_, rfl, h⟩
theorem wreps2 {H : Hp} {x y : D} {vs : List V} (h : WReps W H [x, y] vs) : ∃ v w, vs = [v, w] ∧ WRep W H x v ∧ WRep W H y w := by
  cases h with
  | cons h r => cases r with
    | cons h2 r => cases r; exact ⟨_, _, rfl, h, h2⟩
theorem bi_one {op : List D → Option T} (h : ∀ ds, op ds ≠ none → ∃ x, ds = [x]) {ds : List D} {t : T} (e : op ds = some t) : ∃ x, ds = [x] := h ds (by rw [e]; exact fun z => nomatch z)
theorem biD1 {R : D → Option Str} {b : Bi} (hb : b = .len ∨ b = .int ∨ b = .abs ∨ b = .list ∨ b = .tuple ∨ b = .repr ∨ b = .all ∨ b = .any ∨ b = .sum) {ds : List D} {t : T} (e : biD R b ds = some t) : ∃ x, ds = [x] := by
  rcases ds with _ | ⟨x, _ | ⟨y, r⟩⟩
  · rcases hb with rfl | rfl | rfl | rfl | rfl | rfl | rfl | rfl | rfl <;> simp [biD] at e
  · exact ⟨x, rfl⟩
  · rcases hb with rfl | rfl | rfl | rfl | rfl | rfl | rfl | rfl | rfl <;> simp [biD] at e
theorem c_len (hK : X.K = W.K) {R : D → Option Str} : CallD W X (.builtin "len") (biD R .len) := by
  intro pins s σ H vs us Q I r ⟨ds, t, w, e, q⟩
  obtain ⟨x, rfl⟩ := biD1 (.inl rfl) e
  obtain ⟨v, rfl, h⟩ := wreps1 w
  simp only [biD] at e
  obtain ⟨n, e1, rfl⟩ := Option.map_eq_some_iff.mp e
  have fin : ∀ m : Nat, LenV X.K v H m → m = n → wpAny (model X.prog X.w) X.A (call (.builtin "len") us) (EP X pins σ Q) X.xe s := fun m h1 h2 => call_len pins s σ H [v] us Q I r ⟨v, m, rfl, h1, by rw [h2]; exact frD q (.int _)⟩
  cases x <;> simp only [lenD, Option.some.injEq, reduceCtorEq] at e1
  · split at e1
    · rename_i hf
      cases h.strI
      exact fin _ ⟨fits_le hf, rfl⟩ (Option.some.inj e1)
    · cases e1
  · obtain ⟨a, xs, rfl, ha, ra⟩ := h.tupI
    exact fin _ (.inr ⟨xs, hK ▸ ha, rfl⟩) (by rw [← ra.length]; exact e1)
  · obtain ⟨a, xs, rfl, ha, ra⟩ := h.lstI
    exact fin _ (.inl ⟨xs, hK ▸ ha, rfl⟩) (by rw [← ra.length]; exact e1)
theorem c_int {R : D → Option Str} : CallD W X (.type "int") (biD R .int) := by
  intro pins s σ H vs us Q I r ⟨ds, t, w, e, q⟩
  obtain ⟨x, rfl⟩ := biD1 (.inr (.inl rfl)) e
  obtain ⟨v, rfl, h⟩ := wreps1 w
  cases x <;> simp only [biD, Option.some.injEq, reduceCtorEq] at e
  · subst e; cases h.blI
    exact call_int1 pins s σ H _ us Q I r (.inr ⟨_, rfl, frD q (.int _)⟩)
  · subst e; cases h.intI
    exact call_int1 pins s σ H _ us Q I r (.inl ⟨_, rfl, frD q (.int _)⟩)
  · split at e
    · rename_i hz
      obtain ⟨i, e1, rfl⟩ := Option.map_eq_some_iff.mp e
      cases h.strI
      exact call_int_str pins s σ H _ us Q I r ⟨_, _, rfl, e1, of_decide_eq_true hz, frD q (.int _)⟩
    · cases e
theorem c_abs {R : D → Option Str} : CallD W X (.builtin "abs") (biD R .abs) := by
  intro pins s σ H vs us Q I r ⟨ds, t, w, e, q⟩
  obtain ⟨x, rfl⟩ := biD1 (.inr (.inr (.inl rfl))) e
  obtain ⟨v, rfl, h⟩ := wreps1 w
  cases x <;> simp only [biD, Option.some.injEq, reduceCtorEq] at e
  subst e; cases h.intI
  exact call_abs pins s σ H _ us Q I r ⟨_, rfl, frD q (.int _)⟩
theorem c_list (hK : X.K = W.K) {R : D → Option Str} : CallD W X (.type "list") (biD R .list) := by
  intro pins s σ H vs us Q I r ⟨ds, t, w, e, q⟩
  obtain ⟨x, rfl⟩ := biD1 (.inr (.inr (.inr (.inl rfl)))) e
  obtain ⟨v, rfl, h⟩ := wreps1 w
  simp only [biD] at e
  obtain ⟨xs, e1, rfl⟩ := Option.map_eq_some_iff.mp e
  cases x <;> simp only [D.items, Option.some.injEq, reduceCtorEq] at e1
  · subst e1
    obtain ⟨a, ws, rfl, ha, ra⟩ := h.tupI
    exact call_list_of pins s σ H _ us Q I r ⟨a, ws, rfl, .inr (hK ▸ ha), fun l hl => q _ _ (.newLst hl ra)⟩
  · subst e1
    obtain ⟨a, ws, rfl, ha, ra⟩ := h.lstI
    exact call_list_of pins s σ H _ us Q I r ⟨a, ws, rfl, .inl (hK ▸ ha), fun l hl => q _ _ (.newLst hl ra)⟩
theorem call_tupleN : CallR X (.type "tuple") (fun xs H Q => ∃ p ys, xs = [.ref p] ∧ ((SqL X.K H p ys ∧ ∀ l o, H l = none → o.dict = none → Q (.ref l) (upd H l (.frz o (.tup ys)))) ∨ (SqT X.K H p ys ∧ Q (.ref p) H))) := by
  intro pins s σ H xs us Q I r ⟨p, ys, ex, h⟩
  subst ex
  rcases h with ⟨hq, q⟩ | h
  · obtain ⟨u, rfl, rx⟩ := vals1 r
    cases rx
    obtain ⟨its, rv, pl, hz⟩ := I.list hq
    have hlen := rv.length
    refine call_tuple_list pl.isList (fun h' kp => ?_) (by simp only [List.size_toArray]; omega)
    have J : Inv X pins σ H { s with heap := h' } := I.kept (t' := s.toks) kp
    obtain ⟨o, ho, hf, J2⟩ := laidN (t' := s.toks) J rv hz
    exact ⟨.ref h'.objs.size, _, J2, rfl, q _ o hf ho⟩
  · exact call_tuple_of pins s σ H _ us Q I r ⟨p, ys, rfl, .inr h⟩
theorem c_tuple (hK : X.K = W.K) {R : D → Option Str} : CallD W X (.type "tuple") (biD R .tuple) := by
  intro pins s σ H vs us Q I r ⟨ds, t, w, e, q⟩
  obtain ⟨x, rfl⟩ := biD1 (.inr (.inr (.inr (.inr (.inl rfl))))) e
  obtain ⟨v, rfl, h⟩ := wreps1 w
  simp only [biD] at e
  obtain ⟨xs, e1, rfl⟩ := Option.map_eq_some_iff.mp e
  cases x <;> simp only [D.items, Option.some.injEq, reduceCtorEq] at e1
  · subst e1
    obtain ⟨a, ws, rfl, ha, ra⟩ := h.tupN
    exact call_tuple_of pins s σ H _ us Q I r ⟨a, ws, rfl, .inr ⟨hK ▸ ha.sqt, frD q (.tup ha ra)⟩⟩
  · subst e1
    obtain ⟨a, ws, rfl, ha, ra⟩ := h.lstI
    exact call_tupleN pins s σ H _ us Q I r ⟨a, ws, rfl, .inl ⟨hK ▸ ha, fun l o hl ho => q _ _ (.newTup hl ho ra)⟩⟩
theorem allB_vs {H : Hp} : ∀ {ds : List D} {vs : List V} {b : Bool}, allB ds = some b → Reps W H ds vs → ∃ bs : List Bool, vs = bs.map V.bl ∧ bs.all id = b
  | [], _, _, e, .nil => by cases e; exact ⟨[], rfl, rfl⟩
  | d :: ds, _, b, e, .cons h r => by
    cases d <;> simp only [allB, reduceCtorEq] at e
    rename_i k
    obtain ⟨b', e1, rfl⟩ := Option.map_eq_some_iff.mp e
    obtain ⟨bs, rfl, h2⟩ := allB_vs e1 r
    cases h
    exact ⟨k :: bs, rfl, by simp [h2]⟩
theorem anyB_vs {H : Hp} : ∀ {ds : List D} {vs : List V} {b : Bool}, anyB ds = some b → Reps W H ds vs → ∃ bs : List Bool, vs = bs.map V.bl ∧ bs.any id = b
  | [], _, _, e, .nil => by cases e; exact ⟨[], rfl, rfl⟩
  | d :: ds, _, b, e, .cons h r => by
    cases d <;> simp only [anyB, reduceCtorEq] at e
    rename_i k
    obtain ⟨b', e1, rfl⟩ := Option.map_eq_some_iff.mp e
    obtain ⟨bs, rfl, h2⟩ := anyB_vs e1 r
    cases h
    exact ⟨k :: bs, rfl, by simp [h2]⟩
theorem sumI_vs {H : Hp} : ∀ {ds : List D} {vs : List V} {n : Int}, sumI ds = some n → Reps W H ds vs → ∃ ns : List Int, vs = ns.map V.int ∧ ns.sum = n
  | [], _, _, e, .nil => by cases e; exact ⟨[], rfl, rfl⟩
  | d :: ds, _, b, e, .cons h r => by
    cases d <;> simp only [sumI, reduceCtorEq] at e
    rename_i k
    obtain ⟨b', e1, rfl⟩ := Option.map_eq_some_iff.mp e
    obtain ⟨bs, rfl, h2⟩ := sumI_vs e1 r
    cases h
    exact ⟨k :: bs, rfl, by simp [h2]⟩
theorem c_all (hK : X.K = W.K) (hc : X.calm = true) {R : D → Option Str} : CallD W X (.builtin "all") (biD R .all) := by
  intro pins s σ H vs us Q I r ⟨ds, t, w, e, q⟩
  obtain ⟨x, rfl⟩ := biD1 (.inr (.inr (.inr (.inr (.inr (.inr (.inl rfl))))))) e
  obtain ⟨v, rfl, h⟩ := wreps1 w
  cases x <;> simp only [biD, reduceCtorEq] at e
  obtain ⟨b, e1, rfl⟩ := Option.map_eq_some_iff.mp e
  obtain ⟨a, ws, rfl, ha, ra⟩ := h.lstI
  obtain ⟨bs, rfl, h2⟩ := allB_vs e1 ra
  exact cr_all hc pins s σ H _ us Q I r ⟨a, bs, rfl, hK ▸ ha, by rw [h2]; exact bl_res q⟩
theorem c_any (hK : X.K = W.K) (hc : X.calm = true) {R : D → Option Str} : CallD W X (.builtin "any") (biD R .any) := by
  intro pins s σ H vs us Q I r ⟨ds, t, w, e, q⟩
  obtain ⟨x, rfl⟩ := biD1 (.inr (.inr (.inr (.inr (.inr (.inr (.inr (.inl rfl)))))))) e
  obtain ⟨v, rfl, h⟩ := wreps1 w
  cases x <;> simp only [biD, reduceCtorEq] at e
  obtain ⟨b, e1, rfl⟩ := Option.map_eq_some_iff.mp e
  obtain ⟨a, ws, rfl, ha, ra⟩ := h.lstI
  obtain ⟨bs, rfl, h2⟩ := anyB_vs e1 ra
  exact cr_any hc pins s σ H _ us Q I r ⟨a, bs, rfl, hK ▸ ha, by rw [h2]; exact bl_res q⟩
theorem c_sum (hK : X.K = W.K) (hc : X.calm = true) {R : D → Option Str} : CallD W X (.builtin "sum") (biD R .sum) := by
  intro pins s σ H vs us Q I r ⟨ds, t, w, e, q⟩
  obtain ⟨x, rfl⟩ := biD1 (.inr (.inr (.inr (.inr (.inr (.inr (.inr (.inr rfl)))))))) e
  obtain ⟨v, rfl, h⟩ := wreps1 w
  cases x <;> simp only [biD, reduceCtorEq] at e
  obtain ⟨b, e1, rfl⟩ := Option.map_eq_some_iff.mp e
  obtain ⟨a, ws, rfl, ha, ra⟩ := h.lstI
  obtain ⟨bs, rfl, h2⟩ := sumI_vs e1 ra
  exact cr_sum hc pins s σ H _ us Q I r ⟨a, bs, rfl, hK ▸ ha, by rw [h2]; exact frD q (.int _)⟩
theorem c_max2 (hc : X.calm = true) {R : D → Option Str} : CallD W X (.builtin "max") (biD R .max2) := by
  intro pins s σ H vs us Q I r ⟨ds, t, w, e, q⟩
  rcases ds with _ | ⟨x, _ | ⟨y, _ | ⟨z, l⟩⟩⟩ <;> try (simp [biD] at e; done)
  obtain ⟨v, v2, rfl, h, h2⟩ := wreps2 w
  cases x <;> cases y <;> simp only [biD, Option.some.injEq, reduceCtorEq] at e
  subst e; cases h.intI; cases h2.intI
  exact call_max2 hc pins s σ H _ us Q I r ⟨_, _, rfl, frD q (.int _)⟩
theorem c_min2 (hc : X.calm = true) {R : D → Option Str} : CallD W X (.builtin "min") (biD R .min2) := by
  intro pins s σ H vs us Q I r ⟨ds, t, w, e, q⟩
  rcases ds with _ | ⟨x, _ | ⟨y, _ | ⟨z, l⟩⟩⟩ <;> try (simp [biD] at e; done)
  obtain ⟨v, v2, rfl, h, h2⟩ := wreps2 w
  cases x <;> cases y <;> simp only [biD, Option.some.injEq, reduceCtorEq] at e
  subst e; cases h.intI; cases h2.intI
  exact call_min2 hc pins s σ H _ us Q I r ⟨_, _, rfl, frD q (.int _)⟩

/-- the call itself: one argument looked at, or several frozen ones -/
theorem sb_bi1 {f : Value} {op : List D → Option T} {E a : Expr} {ea : Env → Out T} (hc : CallD W X f op)
    (hE : ∀ {r : List V → Hp → VK → Prop} {t : TA}, CallR X f r → PA X [a] t → PE X E (tCB r t)) (hs : ∀ b p, a ≠ .Starred b p) (ha : PE X a (tBo W Wx ea)) :
    PE X E (tE W Wx fun ρ => (ea ρ).bind fun x ρ => Out.of ρ (x.shal.bind fun x => op [x])) := by
  refine (hE hc (pa_cons ha pa_nil (plain_star hs))).mono fun σ H Q ⟨C, ρ, rel, q⟩ => ⟨C, ρ, rel, ?_⟩
  refine wB_bind wE_x wE_b wE_m q fun y ρ2 w H2 e2 r2 ⟨fp, p2⟩ q2 => ?_
  cases es : y.shal with
  | none => rw [es] at q2; exact q2.elim
  | some y' =>
    simp only [es, Option.bind_some] at q2
    cases eo : op [y'] with
    | none => rw [eo] at q2; exact q2.elim
    | some t =>
      rw [eo] at q2
      exact ⟨[y'], t, .cons (shal_wrep es p2) .nil, eo, fun u H3 rs => let ⟨k1, k2⟩ := rs.rel r2; q2 u H3 k1 k2⟩
theorem sb_bis {f : Value} {op : List D → Option T} {E : Expr} (hc : CallD W X f op)
    (hE : ∀ {r : List V → Hp → VK → Prop} {t : TA}, CallR X f r → PA X es t → PE X E (tCB r t)) (ha : PA X es (tDs W Wx er)) :
    PE X E (tE W Wx fun ρ => (er ρ).bind fun ds ρ => Out.of ρ (op ds)) := by
  refine (hE hc ha).mono fun σ H Q ⟨C, ρ, rel, q⟩ => ⟨C, ρ, rel, ?_⟩
  refine wDs_bind wE_x wE_b wE_m q fun ds ρ2 vs H2 e2 r2 p2 q2 => ?_
  cases eo : op ds with
  | none => rw [eo] at q2; exact q2.elim
  | some t =>
    rw [eo] at q2
    exact ⟨ds, t, p2.wreps, eo, fun u H3 rs => let ⟨k1, k2⟩ := rs.rel r2; q2 u H3 k1 k2⟩
end
end Eg
set_option Elab.async false
set_option linter.all false
set_option maxRecDepth 100000
set_option maxHeartbeats 4000000
/-! the engine: items, slices, dict displays, isinstance, list(range(..)) -/
namespace Eg
open PySem PySem.Spec PyProof.Rows L2

section
variable {W : Wd} {Wx : WX} {X : Cx} {pos p2 : Pos}
theorem reps_at {H : Hp} {ds : List D} {vs : List V} {i : Int} {d : D} (r : Reps W H ds vs) (e : L2.atI ds i = some d) : ∃ v, L2.atI vs i = some v ∧ Rep W H d v := by
  unfold L2.atI at e ⊢
  rw [← r.length]
  cases h : L2.ixN ds.length i with
  | none => rw [h] at e; cases e
  | some j =>
    rw [h] at e
    exact r.get e
theorem zip_lookup {H : Hp} {k : Key} {d : D} : ∀ {ks : List Key} {ds : List D} {vs : List V}, Reps W H ds vs → keyAt ks ds k = some d → ∃ v, valV (ks.zip vs) k = some v ∧ Rep W H d v
  | [], _, _, _, e => by simp [keyAt] at e
  | _ :: _, _, _, .nil, e => by simp [keyAt] at e
  | j :: ks, _, _, .cons (d := d0) (v := v0) h r, e => by
    unfold keyAt at e
    by_cases z : j = k
    · rw [if_pos z] at e; cases e
      exact ⟨v0, by simp only [List.zip_cons_cons]; exact valV_pos z, h⟩
    · rw [if_neg z] at e
      obtain ⟨v, h1, h2⟩ := zip_lookup r e
      exact ⟨v, by simp only [List.zip_cons_cons]; rw [valV_neg z]; exact h1, h2⟩
/-- d[k], as a subscript's end -/
theorem ix_dict (hu : X.A.units + 1 < cLine) : IxR X (fun x y H Q => ∃ a v, x = .ref a ∧ DGet H a y (some v) ∧ Q v H) := by
  intro value slice pins s σ H x y v u Q I rx ry ⟨a, z, ex, g, q⟩ hs
  subst ex
  cases (show v = Value.ref a from rx)
  have hT := dict_typeIs I g
  unfold subscriptTail
  refine wpAny_bind ?_
  rw [getitemInPython_of_ne hT.not_modules]
  refine wpAny_bind (wpAny_specialOf hT PySem.F.slot_dict_getitem.lookup ?_)
  have go : wpAny (model X.prog X.w) X.A (subscripted slice false (.ref a) u) (fun r s' => wpAny (model X.prog X.w) X.A (letTemporaryGo value (.ref a) r >>= fun _ => pure r) (EP X pins σ Q) X.xe s') X.xe s := by
    rw [hs]
    exact wpAny_operating (d_getItem hu I g ry fun w' s' I' r' => wpAny_bind (wpAny_letTemporaryGo (wpAny_pure ⟨z, H, I', r', q⟩)))
  first
    | exact wpAny_pure (wpAny_bind go)
    | exact wpAny_bind (wpAny_pure (wpAny_bind go))
    | exact wpAny_bind go
theorem ix_D (hK : X.K = W.K) (hu : X.A.units + 300 < cLine) : IxR X (fun v u H Q => ∃ x y z, WRep W H x v ∧ WRep W H y u ∧ ixD x y = some z ∧ ∀ w, Rep W H z w → Q w H) := by
  intro value slice pins s σ H v u v1 u1 Q I rv ru ⟨x, y, z, h1, h2, e, q⟩ hs
  cases x <;> simp only [ixD] at e <;> try (cases e; done)
  · rename_i t
    cases y <;> simp only at e <;> try (cases e; done)
    cases h1.strI; cases h2.intI
    split at e
    · rename_i hf
      obtain ⟨c, e1, rfl⟩ := Option.map_eq_some_iff.mp e
      exact ix_str value slice pins s σ H _ _ v1 u1 Q I rv ru ⟨t, _, c, rfl, rfl, fits_le hf, e1, q _ (.str _)⟩ hs
    · cases e
  · cases y <;> simp only at e <;> try (cases e; done)
    obtain ⟨a, vs, rfl, ha, ra⟩ := h1.tupI
    cases h2.intI
    obtain ⟨w, e1, r1⟩ := reps_at ra e
    exact ix_tup value slice pins s σ H _ _ v1 u1 Q I rv ru ⟨a, vs, _, w, rfl, rfl, hK ▸ ha, e1, q _ r1⟩ hs
  · cases y <;> simp only at e <;> try (cases e; done)
    obtain ⟨a, vs, rfl, ha, ra⟩ := h1.lstI
    cases h2.intI
    obtain ⟨w, e1, r1⟩ := reps_at ra e
    exact ix_list value slice pins s σ H _ _ v1 u1 Q I rv ru ⟨a, vs, _, w, rfl, rfl, hK ▸ ha, e1, q _ r1⟩ hs
  · obtain ⟨a, vs, rfl, ha, ra, l⟩ := h1.dicI
    obtain ⟨k, e1, e2⟩ := Option.bind_eq_some_iff.mp e
    obtain ⟨w, e3, r3⟩ := zip_lookup ra e2
    cases keyOf_V e1 h2
    exact ix_dict (by omega) value slice pins s σ H _ _ v1 u1 Q I rv ru ⟨a, w, rfl, .inl ⟨_, k, ha, rfl, e3.symm⟩, q _ r3⟩ hs

variable {a b : Expr} {ea eb : Env → Out D}
theorem Rel.bound {C : Fx} {ρ : Env} {σ : L2.St} {H : Hp} {k : Nat} (r : Rel W C ρ σ H) (e : boundS ρ k = true) : ∃ v, σ[k]? = some (some v) := by
  unfold boundS at e
  split at e
  · rename_i d h; obtain ⟨v, h1, _⟩ := r.val h; exact ⟨v, h1⟩
  · rename_i t h; obtain ⟨v, fp, h1, _⟩ := r.ownAt h; exact ⟨v, h1⟩
  · cases e
/-- a name's thing, looked at -/
theorem Rel.look {C : Fx} {ρ : Env} {σ : L2.St} {H : Hp} {k : Nat} {t : T} (r : Rel W C ρ σ H) (e : ρ[k]? = some (.val t.toD) ∧ (∃ d, t = .fr d) ∨ ρ[k]? = some (.own t)) : ∃ v fp, σ[k]? = some (some v) ∧ Own W H t v fp := by
  rcases e with ⟨e, d, rfl⟩ | e
  · obtain ⟨v, h1, h2⟩ := r.val e; exact ⟨v, [], h1, .fr h2⟩
  · exact r.ownAt e
/-- xs[i] of a name -/
theorem sb_ixV {x : Str} {k : Nat} (g : GX W Wx X) (hN : X.N[k]? = some x) (hv : Vis X.env.scope x) (hd : (x == ("__debug__" : Str)) = false) (hcd : (x == ("__classdict__" : Str)) = false) (hb : PE X b (tD W Wx eb)) (hs : PlainIx b) :
    PE X (.Subscript (.Name x p2) b pos) (tE W Wx fun ρ => if boundS ρ k then (eb ρ).bind fun y ρ => Out.of ρ (ixS ρ[k]? y) else .bad) := by
  refine (pe_ix (ix_D g.hK g.hu) (pe_var hN hv hd hcd) hb hs).mono fun σ H Q ⟨C, ρ, rel, q⟩ => ?_
  cases hbd : boundS ρ k with
  | false => simp only [hbd] at q; exact q.elim
  | true =>
    simp only [hbd, if_true] at q
    obtain ⟨v, ev⟩ := rel.bound hbd
    refine ⟨v, ev, C, ρ, rel, ?_⟩
    refine wD_bind wE_x wE_b wE_m q fun y ρ1 u H1 e1 r1 p1 q1 => ?_
    cases es : ixS ρ1[k]? y with
    | none => rw [es] at q1; exact q1.elim
    | some t =>
      rw [es] at q1
      unfold ixS at es
      split at es
      · rename_i d h
        obtain ⟨z, e2, rfl⟩ := Option.map_eq_some_iff.mp es
        obtain ⟨v', h1, h2⟩ := r1.val h
        rw [ev] at h1; cases h1
        exact ⟨d, y, z, .rep h2, .rep p1, e2, fun w rw' => q1 w H1 (Ext.refl _) (r1.relT rw')⟩
      · rename_i t' h
        obtain ⟨z, e2, rfl⟩ := Option.map_eq_some_iff.mp es
        obtain ⟨x', e3, e4⟩ := Option.bind_eq_some_iff.mp e2
        obtain ⟨v', fp, h1, h2⟩ := r1.ownAt h
        rw [ev] at h1; cases h1
        exact ⟨x', y, z, shal_wrep e3 h2, .rep p1, e4, fun w rw' => q1 w H1 (Ext.refl _) (r1.relT rw')⟩
      · cases es
theorem sb_ixE (g : GX W Wx X) (ha : PE X a (tD W Wx ea)) (hb : PE X b (tD W Wx eb)) (hs : PlainIx b) :
    PE X (.Subscript a b pos) (tE W Wx fun ρ => (ea ρ).bind fun x ρ => (eb ρ).bind fun y ρ => Out.of ρ ((ixD x y).map .fr)) := by
  refine (pe_ix (ix_D g.hK g.hu) ha hb hs).mono fun σ H Q ⟨C, ρ, rel, q⟩ => ⟨C, ρ, rel, ?_⟩
  refine wD_bind wE_x wE_b wE_m q fun x ρ1 v H1 e1 r1 p1 q1 => ⟨C, ρ1, r1, ?_⟩
  refine wD_bind wE_x wE_b wE_m q1 fun y ρ2 u H2 e2 r2 p2 q2 => ?_
  cases es : ixD x y with
  | none => rw [es] at q2; exact q2.elim
  | some z => rw [es] at q2; exact ⟨x, y, z, .rep (p1.ext e2), .rep p2, es, fun w rw' => q2 w H2 (Ext.refl _) (r2.relT rw')⟩

/-! ### slices -/
def wO (W : Wd) (C : Fx) (Wx : WX) (o : Out (Option Int)) (σ : L2.St) (H : Hp) (Q : Option Int → Hp → Prop) : Prop := match o with
  | .ok i ρ => ∀ H', Ext H H' → Rel W C ρ σ H' → Q i H'
  | .exc d ρ => xWay W C Wx d ρ σ H
  | .bad => False
def tOe (W : Wd) (Wx : WX) (ev : Env → Out (Option Int)) : TO := fun σ H Q => ∃ C ρ, Rel W C ρ σ H ∧ wO W C Wx (ev ρ) σ H Q
theorem _root_.L2.PO.mono {e : Option Expr} {t t' : TO} (h : PO X e t) (k : ∀ σ H Q, t' σ H Q → t σ H Q) : PO X e t' := ⟨fun pins s σ H Q I q => h.run pins s σ H Q I (k σ H Q q)⟩
theorem wO.mono {C : Fx} {σ : L2.St} {H H1 : Hp} {o : Out (Option Int)} {Q : Option Int → Hp → Prop} (e : Ext H H1) (h : wO W C Wx o σ H Q) : wO W C Wx o σ H1 Q := by
  cases o with
  | ok t ρ => exact fun H' e' => h H' (e.trans e')
  | exc d ρ => exact xWay.mono e h
  | bad => exact h
theorem sb_noPart : PO X none (tOe W Wx fun ρ => .ok none ρ) := po_none.mono fun σ H Q ⟨C, ρ, rel, q⟩ => q H (Ext.refl _) rel
theorem sb_part (h : PE X a (tD W Wx ea)) : PO X (some a) (tOe W Wx fun ρ => bindI (ea ρ) fun i ρ => .ok (some i) ρ) := by
  refine (po_some h).mono fun σ H Q ⟨C, ρ, rel, q⟩ => ⟨C, ρ, rel, ?_⟩
  refine wD_bind (P := fun o H => wO W C Wx o σ H Q) (fun _ _ _ h => h) (fun _ h => h) (fun _ _ _ e h => wO.mono e h) q fun x ρ1 v H1 e1 r1 p1 q1 => ?_
  cases x with
  | int i => cases p1; exact ⟨i, rfl, q1 H1 (Ext.refl _) r1⟩
  | _ => exact q1.elim
/-- t[lo:hi], told with the new tuple -/
theorem sl_tupN : L2.SlR X (fun x lo hi H Q => ∃ a xs, x = .ref a ∧ SqT X.K H a xs ∧
    (HT.sIx xs.length 0 lo = 0 ∧ HT.sIx xs.length xs.length hi = xs.length → Q (.ref a) H) ∧ (¬ (HT.sIx xs.length 0 lo = 0 ∧ HT.sIx xs.length xs.length hi = xs.length) → ∀ p o, H p = none → o.dict = none → Q (.ref p) (upd H p (.frz o (.tup (cutV xs lo hi)))))) := by
  intro pins s σ H x v vl vu lo hi sl Q I rx hs pl pu ⟨a, xs, ex, hx, q1, q2⟩
  subst ex
  by_cases hw : HT.sIx xs.length 0 lo = 0 ∧ HT.sIx xs.length xs.length hi = xs.length
  · exact sl_tupA pins s σ H _ v vl vu lo hi sl Q I rx hs pl pu ⟨a, xs, rfl, hx, fun _ => q1 hw, fun z => absurd hw z⟩
  · cases rx
    obtain ⟨its, rv, ht, hz⟩ := I.tuple hx
    have hlen : its.toArray.size = xs.length := by rw [List.size_toArray]; exact rv.length.symm
    refine ⟨"tuple", _, PyProof.Rows.slot_tuple_getitem.lookup, ht.typeIs, HT.getItem_tuple_cut ht hs pl pu (by rw [hlen]; exact hw) ?_ (by rw [hlen]; exact hz)⟩
    rw [hlen]
    obtain ⟨o, ho, hf, J⟩ := laidN (t' := s.toks) I ((rv.drop (HT.sIx xs.length 0 lo)).take (HT.sIx xs.length xs.length hi - HT.sIx xs.length 0 lo)) (Nat.le_trans (cutV_length xs lo hi) hz)
    exact ⟨.ref s.heap.objs.size, _, J, rfl, q2 hw _ o hf ho⟩
/-- a slice on data -/
theorem sl_D (hK : X.K = W.K) : L2.SlR X (fun v lo hi H Q => ∃ x t, WRep W H x v ∧ slD x lo hi = some t ∧ ∀ u H', ResT W H t u H' → Q u H') := by
  intro pins s σ H v v1 vl vu lo hi sl Q I rv hsl pl pu ⟨x, t, h, e, q⟩
  cases x <;> simp only [slD, Option.some.injEq, reduceCtorEq] at e
  · split at e
    · rename_i hf
      cases e
      cases h.strI
      exact sl_str pins s σ H _ v1 vl vu lo hi sl Q I rv hsl pl pu ⟨_, rfl, fits_le hf, q _ H (.inl ⟨rfl, _, rfl, .str _⟩)⟩
    · cases e
  · subst e
    obtain ⟨a, vs, rfl, ha, ra⟩ := h.tupN
    rw [ra.length] at q
    have rc := (ra.drop (HT.sIx vs.length 0 lo)).take (HT.sIx vs.length vs.length hi - HT.sIx vs.length 0 lo)
    refine sl_tupN pins s σ H _ v1 vl vu lo hi sl Q I rv hsl pl pu ⟨a, vs, rfl, hK ▸ ha.sqt, fun z => ?_, fun _ p o hp ho => ?_⟩
    · refine q _ H (.inl ⟨rfl, _, rfl, .tup ha ?_⟩)
      rw [z.1, z.2, ← ra.length]
      simpa [List.take_of_length_le] using ra
    · exact q _ _ (.newTup hp ho rc)
  · subst e
    obtain ⟨a, vs, rfl, ha, ra⟩ := h.lstI
    refine sl_list pins s σ H _ v1 vl vu lo hi sl Q I rv hsl pl pu ⟨a, vs, rfl, hK ▸ ha, fun p hp => q _ _ ?_⟩
    rw [ra.length]
    exact ResT.newLst hp ((ra.drop (HT.sIx vs.length 0 lo)).take (HT.sIx vs.length vs.length hi - HT.sIx vs.length 0 lo))
variable {lo hi : Option Expr} {el eh : Env → Out (Option Int)}
theorem wO_bind {α : Type} {C : Fx} {σ : L2.St} {P : Out α → Hp → Prop} (hx : ∀ d ρ H, P (.exc d ρ) H → xWay W C Wx d ρ σ H) (hb : ∀ H, ¬ P .bad H) (hm : ∀ o H H1, Ext H H1 → P o H → P o H1)
    {H : Hp} {o : Out (Option Int)} {k : Option Int → Env → Out α} {Q : Option Int → Hp → Prop} (h : P (o.bind k) H) (hk : ∀ i ρ H1, Ext H H1 → Rel W C ρ σ H1 → P (k i ρ) H1 → Q i H1) : wO W C Wx o σ H Q := by
  cases o with
  | ok d ρ => exact fun H1 e r => hk d ρ H1 e r (hm _ _ _ e h)
  | exc d ρ => exact hx _ _ _ h
  | bad => exact hb _ h
theorem sb_slE (g : GX W Wx X) (ha : PE X a (tD W Wx ea)) (hl : PO X lo (tOe W Wx el)) (hh : PO X hi (tOe W Wx eh)) :
    PE X (.Subscript a (.Slice lo hi none p2) pos) (tE W Wx fun ρ => (ea ρ).bind fun x ρ => (el ρ).bind fun l ρ => (eh ρ).bind fun h ρ => Out.of ρ (slD x l h)) := by
  refine (pe_slice (sl_D g.hK) ha hl hh).mono fun σ H Q ⟨C, ρ, rel, q⟩ => ⟨C, ρ, rel, ?_⟩
  refine wD_bind wE_x wE_b wE_m q fun x ρ1 v H1 e1 r1 p1 q1 => ⟨C, ρ1, r1, ?_⟩
  refine wO_bind wE_x wE_b wE_m q1 fun l ρ2 H2 e2 r2 q2 => ⟨C, ρ2, r2, ?_⟩
  refine wO_bind wE_x wE_b wE_m q2 fun h ρ3 H3 e3 r3 q3 => ?_
  cases es : slD x l h with
  | none => rw [es] at q3; exact q3.elim
  | some t => rw [es] at q3; exact ⟨x, t, .rep (p1.ext (e2.trans e3)), es, fun u H4 rs => let ⟨k1, k2⟩ := rs.rel r3; q3 u H4 k1 k2⟩
theorem sb_slV {x : Str} {k : Nat} {p3 : Pos} (g : GX W Wx X) (hN : X.N[k]? = some x) (hv : Vis X.env.scope x) (hd : (x == ("__debug__" : Str)) = false) (hcd : (x == ("__classdict__" : Str)) = false) (hl : PO X lo (tOe W Wx el)) (hh : PO X hi (tOe W Wx eh)) :
    PE X (.Subscript (.Name x p3) (.Slice lo hi none p2) pos) (tE W Wx fun ρ => if boundS ρ k then (el ρ).bind fun l ρ => (eh ρ).bind fun h ρ => Out.of ρ (slS ρ[k]? l h) else .bad) := by
  refine (pe_slice (sl_D g.hK) (pe_var hN hv hd hcd) hl hh).mono fun σ H Q ⟨C, ρ, rel, q⟩ => ?_
  cases hbd : boundS ρ k with
  | false => simp only [hbd] at q; exact q.elim
  | true =>
    simp only [hbd, if_true] at q
    obtain ⟨v, ev⟩ := rel.bound hbd
    refine ⟨v, ev, C, ρ, rel, ?_⟩
    refine wO_bind wE_x wE_b wE_m q fun l ρ2 H2 e2 r2 q2 => ⟨C, ρ2, r2, ?_⟩
    refine wO_bind wE_x wE_b wE_m q2 fun h ρ3 H3 e3 r3 q3 => ?_
    cases es : slS ρ3[k]? l h with
    | none => rw [es] at q3; exact q3.elim
    | some t =>
      rw [es] at q3
      unfold slS at es
      split at es
      · rename_i d hs
        obtain ⟨v', h1, h2⟩ := r3.val hs
        rw [ev] at h1; cases h1
        exact ⟨d, t, .rep h2, es, fun u H4 rs => let ⟨k1, k2⟩ := rs.rel r3; q3 u H4 k1 k2⟩
      · rename_i t' hs
        obtain ⟨x', e3, e4⟩ := Option.bind_eq_some_iff.mp es
        obtain ⟨v', fp, h1, h2⟩ := r3.ownAt hs
        rw [ev] at h1; cases h1
        exact ⟨x', t, shal_wrep e3 h2, e4, fun u H4 rs => let ⟨k1, k2⟩ := rs.rel r3; q3 u H4 k1 k2⟩
      · cases es

/-! ### list(range(..)) -/
theorem rgV_reps {H : Hp} (a b : Int) : Reps W H (rangeD a b) (rgV a b) := by
  unfold rangeD rgV
  generalize (b - a).toNat = n
  induction (List.range n) with
  | nil => exact .nil
  | cons k r ih => exact .cons (.int _) ih
def tRgD (W : Wd) (Wx : WX) (ev : Env → Out (Int × Int)) : L2.St → Hp → (Int → Int → Hp → Prop) → Prop := fun σ H Q => ∃ C ρ, Rel W C ρ σ H ∧ match ev ρ with
  | .ok p ρ => ∀ H', Ext H H' → Rel W C ρ σ H' → Q p.1 p.2 H'
  | .exc d ρ => xWay W C Wx d ρ σ H
  | .bad => False
theorem okRange_of {i : Int} (h : okRange i = true) : -(2 ^ 62) ≤ i ∧ i < 2 ^ 62 := by
  unfold okRange at h
  rw [Bool.and_eq_true] at h
  exact ⟨of_decide_eq_true h.1, of_decide_eq_true h.2⟩

/-! ### dict displays -/
def keyEx (k : Key) (e : Option Expr) : Bool := match k, e with
  | .inl i, some (.Constant (.int j) _ _) => i == j
  | .inr x, some (.Constant (.str y) _ _) => decide (x = y)
  | _, _ => false
theorem keyEx_pe {k : Key} {e : Option Expr} (h : keyEx k e = true) : ∃ e', e = some e' ∧ PE X e' (tC (kV k)) := by
  unfold keyEx at h
  split at h
  · have := eq_of_beq h; subst this; exact ⟨_, rfl, pe_int⟩
  · have := of_decide_eq_true h; subst this; exact ⟨_, rfl, pe_str⟩
  · cases h
end
end Eg
set_option Elab.async false
set_option linter.all false
set_option maxRecDepth 100000
set_option maxHeartbeats 4000000
/-! the engine: dict displays, list(range(..)), isinstance -/
namespace Eg
open PySem PySem.Spec PyProof.Rows L2

section
variable {W : Wd} {Wx : WX} {X : Cx} {pos p2 : Pos}
def kvV (ks : List Key) (vs : List V) : List (V × V) := (ks.zip vs).map fun kv => (kV kv.1, kv.2)
def tKv (W : Wd) (Wx : WX) (ks : List Key) (er : Env → Out (List D)) : L2.St → Hp → (List (V × V) → Hp → Prop) → Prop := fun σ H Q => ∃ C ρ, Rel W C ρ σ H ∧ wDs W C Wx (er ρ) σ H fun vs H' => Q (kvV ks vs) H'
def PD (X : Cx) (pos : Pos) (keys : List (Option Expr)) (values : List Expr) (t : L2.St → Hp → (List (V × V) → Hp → Prop) → Prop) : Prop :=
  ∃ trs, PPs X pos keys values trs ∧ ∀ σ H Q, t σ H Q → tPairs trs σ H Q
theorem tPairs_mono : ∀ {trs : List (TE × TE)} {σ : L2.St} {H : Hp} {Q : List (V × V) → Hp → Prop}, tPairs trs σ H Q → tPairs trs σ H Q := id
theorem pd_nil : PD X pos [] [] (tKv W Wx [] fun ρ => .ok [] ρ) := ⟨[], pps_nil, fun σ H Q ⟨C, ρ, rel, q⟩ => q [] H (Ext.refl _) rel .nil⟩
theorem pd_cons {k : Key} {ks : List Key} {e : Option Expr} {keys : List (Option Expr)} {v : Expr} {values : List Expr} {ea : Env → Out D} {er : Env → Out (List D)} (hk : keyEx k e = true) (hv : PE X v (tD W Wx ea)) (hr : PD X pos keys values (tKv W Wx ks er)) :
    PD X pos (e :: keys) (v :: values) (tKv W Wx (k :: ks) fun ρ => (ea ρ).bind fun x ρ => (er ρ).bind fun ds ρ => .ok (x :: ds) ρ) := by
  obtain ⟨e', rfl, he⟩ := keyEx_pe (X := X) hk
  obtain ⟨trs, h1, h2⟩ := hr
  refine ⟨_, pps_cons he hv h1, fun σ H Q ⟨C, ρ, rel, q⟩ => ?_⟩
  refine ⟨C, ρ, rel, ?_⟩
  refine wD_bind (P := fun o H => wDs W C Wx o σ H fun vs H' => Q (kvV (k :: ks) vs) H') (fun _ _ _ h => h) (fun _ h => h) (fun _ _ _ e h => wDs.mono e h) q fun x ρ1 u H1 e1 r1 p1 q1 => ?_
  refine h2 _ _ _ ⟨C, ρ1, r1, ?_⟩
  refine wDs_bind (P := fun o H => wDs W C Wx o σ H fun vs H' => Q (kvV (k :: ks) vs) H') (fun _ _ _ h => h) (fun _ h => h) (fun _ _ _ e h => wDs.mono e h) q1 fun ds ρ2 vs H2 e2 r2 p2 q2 => ?_
  exact q2 (u :: vs) H2 (Ext.refl _) r2 (.cons (p1.ext e2) p2)
theorem putK_snoc {k : Key} {v : V} : ∀ {ks : List Key} {vs : List V}, k ∉ ks → valV (ks.zip vs) k = none
  | [], _, _ => by simp [valV]
  | _ :: _, [], _ => by simp [valV]
  | j :: ks, w :: vs, h => by
    simp only [List.zip_cons_cons]
    rw [valV_neg (fun z => h (by rw [← z]; simp))]
    exact putK_snoc (v := v) fun z => h (by simp [z])
theorem merge_zip : ∀ {ks js : List Key} {vs us : List V}, js.length = us.length → (js ++ ks).Nodup → mergeK (js.zip us) (ks.zip vs) = js.zip us ++ ks.zip vs
  | [], _, _, _, _, _ => by simp [mergeK]
  | _ :: _, _, [], _, _, _ => by simp [mergeK]
  | k :: ks, js, v :: vs, us, hl, nd => by
    simp only [List.zip_cons_cons]
    show mergeK (putK (js.zip us) k v) (ks.zip vs) = _
    have hk : k ∉ js := by
      intro z
      have := (List.nodup_append.mp nd).2.2 k z k (by simp)
      exact this rfl
    rw [putK_new v (putK_snoc (v := v) hk)]
    have e : js.zip us ++ [(k, v)] = (js ++ [k]).zip (us ++ [v]) := by rw [List.zip_append hl]; rfl
    rw [e, merge_zip (js := js ++ [k]) (us := us ++ [v]) (by simp [hl]) (by simpa using nd), List.zip_append hl]
    simp
variable {keys : List (Option Expr)} {values : List Expr} {er : Env → Out (List D)} {ks : List Key}
/-- a step's exception under another ground -/
theorem xWay.rebase {C : Fx} {H : Hp} {fp ex : List Addr} {ρ ρ2 : Env} {σ : L2.St} {d : D} (h : RelP W C ρ σ H fp ex) (lv : ∀ a ∈ ex, Live H a) {H0 : Hp} (e0 : Ext H0 H) (q : xWay W C Wx d ρ2 σ H0) : xWay W ⟨H, fp, C.fix⟩ Wx d ρ2 σ H := fun cls dx H' e' rx rl =>
  q cls dx H' (e0.trans e') (rx.to fun a z => h.fresh z) (let ⟨_, fp2, r⟩ := h.back lv rl; r.plain)
theorem sb_dic (h : PD X pos keys values (tKv W Wx ks er)) (hall : keys.all (·.isSome) = true) (hl : keys.length = values.length) (h0 : keys ≠ []) (h15 : keys.length ≤ 15) :
    PE X (.Dict keys values pos) (tE W Wx fun ρ => (er ρ).bind fun ds ρ => if ks.length = ds.length && decide ks.Nodup && decide (ks.length ≤ 15) then .ok (.dic ks (ds.map .fr)) ρ else .bad) := by
  obtain ⟨trs, h1, h2⟩ := h
  refine (pe_disp h1 hall hl h0 h15).mono fun σ H Q ⟨C, ρ, rel, q⟩ p hp => ?_
  obtain ⟨fp, ro⟩ := rel.opened (o := .dK []) hp (fun _ z => nomatch z)
  have lv : ∀ a ∈ [p], Live (upd H p (.dK [])) a := fun a m => by
    have : a = p := by simpa using m
    subst this; exact .inr (.inl ⟨_, upd_same⟩)
  refine h2 _ _ _ ⟨_, ρ, ro.base, ?_⟩
  have e0 : Ext H (upd H p (.dK [])) := Ext.new hp
  cases eo : er ρ with
  | bad => simp only [eo, Out.bind] at q; exact q.elim
  | exc d ρ1 => simp only [eo, Out.bind] at q; exact xWay.rebase ro lv e0 q
  | ok ds ρ1 =>
    simp only [eo, Out.bind] at q
    intro vs H2 e2 r2 p2
    obtain ⟨ke, fp2, r3⟩ := ro.back lv r2
    have kp : H2 p = some (.dK []) := (ke p (by simp)).trans upd_same
    refine ⟨kp, ks.zip vs, rfl, ?_, ?_⟩
    · split at q
      · rename_i hc
        simp only [Bool.and_eq_true, decide_eq_true_eq] at hc
        rw [List.length_zip]; omega
      · exact q.elim
    · split at q
      · rename_i hc
        simp only [Bool.and_eq_true, decide_eq_true_eq] at hc
        obtain ⟨⟨c1, c2⟩, c3⟩ := hc
        have em : mergeK [] (ks.zip vs) = ks.zip vs := by
          have := merge_zip (js := []) (us := []) (ks := ks) (vs := vs) rfl (by simpa using c2)
          simpa using this
        rw [em]
        have lp : Live H2 p := .inr (.inl ⟨_, kp⟩)
        have r4 := r3.write (o := .dK (ks.zip vs)) (by simp) lp (fun _ z => nomatch z)
        have e4 : Ext H2 (upd H2 p (.dK (ks.zip vs))) := Ext.upd lp
        have ow : Own W (upd H2 p (.dK (ks.zip vs))) (.dic ks (ds.map .fr)) (.ref p) [p] := .dic upd_same (p2.ext e4).owns (by rw [c1, p2.length])
        exact q _ _ (e0.trans (e2.trans e4)) (r4.close ow)
      · exact q.elim
theorem sb_dic0 : PE X (.Dict [] [] pos) (tE W Wx fun ρ => .ok (.dic [] []) ρ) := by
  refine pe_dnewK.mono fun σ H Q ⟨C, ρ, rel, q⟩ p hp => ?_
  exact q _ _ (Ext.new hp) (rel.newOwn hp (fun _ z => nomatch z) (.dic (ks := []) (vs := []) upd_same .nil rfl))

/-! ### list(range(..)) -/
theorem rg_ok {a b : Int} (h1 : okRange a = true) (h2 : okRange b = true) (h3 : fits (rangeD a b).length = true) : RgOk a b := by
  have z := fits_le h3
  rw [sizeLine_eq] at z
  have l : (rangeD a b).length = (b - a).toNat := by simp [rangeD]
  rw [l] at z
  exact ⟨(okRange_of h1).1, (okRange_of h1).2, (okRange_of h2).1, (okRange_of h2).2, by omega⟩
variable {a b : Expr} {ea eb : Env → Out D} {p pos2 : Pos}
def isStar : Expr → Bool
  | .Starred _ _ => true
  | _ => false
theorem isStar_ne {e : Expr} (h : isStar e = false) : ∀ b p, e ≠ .Starred b p := fun b p z => by rw [z] at h; cases h
theorem nostar_any {env : PySem.Env} : ∀ {es : List Expr}, (es.all fun e => !isStar e) = true → (backTo pos (starEach es env)).any (·.1) = false
  | [], _ => rfl
  | e :: es, h => by
    simp only [List.all_cons, Bool.and_eq_true, Bool.not_eq_true'] at h
    rw [plain_star (isStar_ne h.1)]
    show (false || (backTo pos (starEach es env)).any (·.1)) = false
    rw [nostar_any h.2]; rfl
theorem nostar1 (h : ∀ b p, a ≠ .Starred b p) : starEach [a] X.env = (false, eval a X.env) :: starEach [] X.env := plain_star h
theorem sb_lrng1 (g : GX W Wx X) (hg : Gl X "list") (hm : X.mg "list" = none) (hg2 : Gl X "range") (hm2 : X.mg "range" = none) (hs : ∀ b p, a ≠ .Starred b p) (ha : PE X a (tD W Wx ea)) :
    PE X (.Call (.Name "list" p) [.Call (.Name "range" p2) [a] [] pos2] [] pos) (tE W Wx fun ρ => (bindI (ea ρ) fun n ρ => if okRange n then .ok (rangeD 0 n) ρ else .bad).bind fun xs ρ => if fits xs.length then .ok (.lst (xs.map .fr)) ρ else .bad) := by
  refine (pe_listRg g.calm hg hm (prg_1 hg2 hm2 ha (plain_star hs))).mono fun σ H Q ⟨C, ρ, rel, q⟩ => ⟨C, ρ, rel, ?_⟩
  unfold bindI at q
  cases eo : ea ρ with
  | bad => simp only [eo, Out.bind] at q; exact q.elim
  | exc d ρ1 => simp only [eo, Out.bind] at q; exact q
  | ok x ρ1 =>
    simp only [eo, Out.bind] at q
    intro v H1 e1 r1 p1
    cases x <;> simp only at q <;> try exact q.elim
    rename_i n
    cases p1
    cases hr : okRange n with
    | false => rw [hr] at q; exact q.elim
    | true =>
      rw [hr] at q
      simp only [if_true] at q
      cases hf : fits (rangeD 0 n).length with
      | false => rw [hf] at q; exact q.elim
      | true =>
        rw [hf] at q
        exact ⟨n, rfl, rg_ok (by decide) hr hf, fun p hp => let ⟨k1, k2⟩ := (ResT.newLst hp (rgV_reps 0 n)).rel r1; q _ _ (e1.trans k1) k2⟩
theorem sb_lrng2 (g : GX W Wx X) (hg : Gl X "list") (hm : X.mg "list" = none) (hg2 : Gl X "range") (hm2 : X.mg "range" = none) (hs : ∀ b p, a ≠ .Starred b p) (hs2 : isStar b = false) (ha : PE X a (tD W Wx ea)) (hb : PE X b (tD W Wx eb)) :
    PE X (.Call (.Name "list" p) [.Call (.Name "range" p2) [a, b] [] pos2] [] pos) (tE W Wx fun ρ => (bindI (ea ρ) fun m ρ => bindI (eb ρ) fun n ρ => if okRange m && okRange n then .ok (rangeD m n) ρ else .bad).bind fun xs ρ => if fits xs.length then .ok (.lst (xs.map .fr)) ρ else .bad) := by
  refine (pe_listRg g.calm hg hm (prg_2 hg2 hm2 ha hb (plain_star hs) (plain_star (isStar_ne hs2)) (nostar_any (by simp [hs2])))).mono fun σ H Q ⟨C, ρ, rel, q⟩ => ⟨C, ρ, rel, ?_⟩
  unfold bindI at q
  cases eo : ea ρ with
  | bad => simp only [eo, Out.bind] at q; exact q.elim
  | exc d ρ1 => simp only [eo, Out.bind] at q; exact q
  | ok x ρ1 =>
    simp only [eo, Out.bind] at q
    intro v H1 e1 r1 p1
    refine ⟨C, ρ1, r1, ?_⟩
    cases x <;> simp only at q <;> try exact q.elim
    rename_i m
    cases p1
    cases eo2 : eb ρ1 with
    | bad => simp only [eo2, Out.bind] at q; exact q.elim
    | exc d ρ2 => simp only [eo2, Out.bind] at q; exact xWay.mono e1 q
    | ok y ρ2 =>
      simp only [eo2, Out.bind] at q
      intro v2 H2 e2 r2 p2
      cases y <;> simp only at q <;> try exact q.elim
      rename_i n
      cases p2
      cases hr : (okRange m && okRange n) with
      | false => rw [hr] at q; exact q.elim
      | true =>
        rw [hr] at q
        simp only [if_true] at q
        cases hf : fits (rangeD m n).length with
        | false => rw [hf] at q; exact q.elim
        | true =>
          rw [hf] at q
          rw [Bool.and_eq_true] at hr
          exact ⟨m, n, rfl, rfl, rg_ok hr.1 hr.2 hf, fun p hp => let ⟨k1, k2⟩ := (ResT.newLst hp (rgV_reps m n)).rel r2; q _ _ (e1.trans (e2.trans k1)) k2⟩

/-! ### isinstance -/
structure ClsI (K : PySem.W.Frag) (C : Addr) : Prop where
  cl : Cls K C
  ha : PySem.W.findIn K (.ref C) "__class__" = some (some (.builtin "object.__class__"))
  hn : PySem.W.specialIn K (.builtin "object.__class__") "__get__" = some (some (.builtin "getset_descriptor.__get__"))
  htk : PySem.W.takesIn K (.builtin "object.__class__") = some true
  hm : PySem.W.mroIn K C (.type "object") = some true
structure ClsE (K : PySem.W.Frag) (C : Addr) : Prop where
  cl : (PySem.W.clsIn K C).isSome = true
  hga : PySem.W.findIn K (.ref C) "__getattribute__" = some (some (.builtin "BaseException.__getattribute__"))
  hgt : PySem.W.findIn K (.ref C) "__getattr__" = some none
  hsub : PySem.W.subIn K (.ref C) (.type "BaseException") = some true
  ha : PySem.W.findIn K (.ref C) "__class__" = some (some (.builtin "object.__class__"))
  hn : PySem.W.specialIn K (.builtin "object.__class__") "__get__" = some (some (.builtin "getset_descriptor.__get__"))
  htk : PySem.W.takesIn K (.builtin "object.__class__") = some true
  hm : PySem.W.mroIn K C (.type "object") = some true
/-- the classes are as the static part tells -/
structure WOk (W : Wd) (S : Stat) : Prop where
  clsI : ∀ c, c < S.nC → S.isX c = false → ClsI W.K (W.cA c)
  clsE : ∀ c, c < S.nC → S.isX c = true → ClsE W.K (W.cA c)
  isi : ∀ c, c < S.nC → ∀ j, j < S.nC → PySem.W.kitOne W.K (.ref (W.cA c)) (.ref (W.cA j)) = some (S.sub c j)
  isB : ∀ c, c < S.nC → ∀ s ∈ tgNs, PySem.W.kitOne W.K (.ref (W.cA c)) (.type s) = some (S.subB c s)
  isT : ∀ t ∈ tyNs, ∀ j, j < S.nC → PySem.W.kitOne W.K (.type t) (.ref (W.cA j)) = some false
theorem kit_tt : ∀ t ∈ tyNs, ∀ s ∈ tgNs, kitB t s = some (isTy t s) := by decide +kernel
def Ty1 (d : D) : Bool := match d with
  | .ins _ _ => false
  | .exc _ _ => false
  | .pr _ => false
  | _ => true
theorem ty1_mem {d : D} (h : Ty1 d = true) : d.ty ∈ tyNs := by cases d <;> simp [Ty1] at h <;> simp [D.ty, tyNs]
theorem kit_1 {pins : List (Addr × Obj)} {σ : L2.St} {H : Hp} {s : Shared} {d : D} {v : V} {u : Value} (hK : X.K = W.K) (I : Inv X pins σ H s) (rv : RelV v u) (h : WRep W H d v) (t1 : Ty1 d = true) :
    ∃ P : Heap → Prop, PySem.W.KitX X.K u (.type d.ty) P ∧ P s.heap ∧ u ≠ .builtin "__main__.__loader__#opaque" := by
  cases h with
  | rep r =>
    cases r with
    | non => exact kit_of I rv (.base .non)
    | bl b => exact kit_of I rv (.base (.bl b))
    | int i => exact kit_of I rv (.base (.int i))
    | str i => exact kit_of I rv (.base (.str i))
    | tup q _ =>
      rcases q with ⟨o, q, _⟩ | ⟨o, _, _, q, c, _⟩
      · exact kit_of I rv (.fTuple q)
      · exact kit_of I rv (.kTuple (hK ▸ q) c)
    | lst q _ =>
      rcases q with ⟨o, q⟩ | ⟨o, _, _, q, c, _⟩
      · exact kit_of I rv (.base (.frz q))
      · exact kit_of I rv (.kList (hK ▸ q) c)
    | dic q _ _ => obtain ⟨o, q⟩ := q; exact kit_of I rv (.fDict q)
    | ins _ _ _ => cases t1
    | exc _ _ => cases t1
    | pr _ _ => cases t1
  | lst q _ => exact kit_of I rv (.base (.lst q))
  | dic q _ _ => exact kit_of I rv (.base (.dK q))
  | ins _ _ _ => cases t1
/-- an instance's own record -/
theorem insM {P : Program} {w : World} {H : Hp} {h : Heap} {a C dx : Addr} {fs : List (Str × V)} (x : ObjOk P w H h a (.ins C dx fs)) : ∃ mA, ObjM h a dx C mA := by
  obtain ⟨d, z, ne, ob, mA, n, r, q⟩ := x
  exact ⟨mA, ob, n, ne⟩
theorem kit_i {pins : List (Addr × Obj)} {σ : L2.St} {H : Hp} {s : Shared} {a C dx : Addr} {fs : List (Str × V)} (ok : ClsI X.K C) (I : Inv X pins σ H s) (r : ObjOk X.prog X.w H s.heap a (.ins C dx fs)) :
    ∃ P : Heap → Prop, PySem.W.KitX X.K (.ref a) (.ref C) P ∧ P s.heap ∧ (Value.ref a) ≠ .builtin "__main__.__loader__#opaque" := by
  obtain ⟨mA, O⟩ := insM r
  obtain ⟨od, J, _⟩ := O.look
  exact ⟨_, PySem.W.kitx_own (ok.cl.get _) ok.cl.hd ok.ha ok.hn ok.htk ok.hm, J, fun z => nomatch z⟩
theorem kit_e {pins : List (Addr × Obj)} {σ : L2.St} {H : Hp} {s : Shared} {a C : Addr} {fs : List (Str × V)} (ok : ClsE X.K C) (I : Inv X pins σ H s) (r : ExF H a C fs) :
    ∃ P : Heap → Prop, PySem.W.KitX X.K (.ref a) (.ref C) P ∧ P s.heap ∧ (Value.ref a) ≠ .builtin "__main__.__loader__#opaque" := by
  obtain ⟨oe, dx, ⟨o, h1⟩, h2, h3, ⟨vs, h4⟩, ⟨o2, h5⟩⟩ := r
  obtain ⟨_, q1, _⟩ := I.hok a _ h1
  obtain ⟨q2, mA, hn, _⟩ := I.hok dx _ h5
  obtain ⟨od, hd, _⟩ := lookIn_ns hn
  have no : PySem.W.notCls oe = true := by unfold PySem.W.notCls; rw [h4]
  exact ⟨_, PySem.W.kitx_exc (od := some od) (ox := oe) ok.cl ok.hga ok.hgt ok.hsub ok.ha ok.hn ok.htk ok.hm, ⟨q1, h2, no, by rw [h3]; exact hd⟩, fun z => nomatch z⟩
def clsVal (W : Wd) : Nat ⊕ String → Value
  | .inl j => .ref (W.cA j)
  | .inr s => .type s
theorem isi_D {S : Stat} {pins : List (Addr × Obj)} {σ : L2.St} {H : Hp} {s : Shared} {d : D} {c : Nat ⊕ String} {b : Bool} {v : V} {u : Value} (ok : WOk W S) (hK : X.K = W.K) (I : Inv X pins σ H s) (rv : RelV v u) (h : WRep W H d v) (e : isiD S d c = some b) :
    ∃ (t : Value) (P : Heap → Prop), PySem.W.KitX X.K u t P ∧ P s.heap ∧ u ≠ .builtin "__main__.__loader__#opaque" ∧ PySem.W.kitOne X.K t (clsVal W c) = some b := by
  have one : Ty1 d = true → isiD S d c = isBlt S d.ty c → ∃ (t : Value) (P : Heap → Prop), PySem.W.KitX X.K u t P ∧ P s.heap ∧ u ≠ .builtin "__main__.__loader__#opaque" ∧ PySem.W.kitOne X.K t (clsVal W c) = some b := fun t1 e1 => by
    obtain ⟨P, k1, k2, k3⟩ := kit_1 hK I rv h t1
    refine ⟨_, P, k1, k2, k3, ?_⟩
    rw [e1] at e
    cases c with
    | inl j =>
      simp only [isBlt] at e
      split at e
      · rename_i hj
        cases e
        rw [hK]; exact ok.isT _ (ty1_mem t1) j hj
      · cases e
    | inr n =>
      simp only [isBlt] at e
      split at e
      · rename_i hj
        cases e
        exact kit_ty (kit_tt _ (ty1_mem t1) n (by simpa using hj))
      · cases e
  have two : ∀ k, k < S.nC → isOwn S k c = some b → PySem.W.kitOne X.K (.ref (W.cA k)) (clsVal W c) = some b := fun k hk e2 => by
    rw [hK]
    cases c with
    | inl j =>
      simp only [isOwn] at e2
      split at e2
      · rename_i hj; cases e2; exact ok.isi k hk j hj
      · cases e2
    | inr n =>
      simp only [isOwn] at e2
      split at e2
      · rename_i hj; cases e2; exact ok.isB k hk n (by simpa using hj)
      · cases e2
  have ins : ∀ k ds, d = .ins k ds → ∀ a, v = .ref a → (∃ dx fs, ObjOk X.prog X.w H s.heap a (.ins (W.cA k) dx fs)) → ∃ (t : Value) (P : Heap → Prop), PySem.W.KitX X.K u t P ∧ P s.heap ∧ u ≠ .builtin "__main__.__loader__#opaque" ∧ PySem.W.kitOne X.K t (clsVal W c) = some b := by
    rintro k ds rfl a rfl ⟨dx, fs, r⟩
    cases (show u = Value.ref a from rv)
    simp only [isiD] at e
    split at e
    · rename_i hc
      simp only [Bool.and_eq_true, decide_eq_true_eq, Bool.not_eq_true'] at hc
      obtain ⟨P, k1, k2, k3⟩ := kit_i (hK ▸ ok.clsI k hc.1 hc.2) I r
      exact ⟨_, P, k1, k2, k3, two k hc.1 e⟩
    · cases e
  cases h with
  | rep r =>
    cases r with
    | ins q _ _ =>
      obtain ⟨o, q⟩ := q
      exact ins _ _ rfl _ rfl ⟨_, _, (I.hok _ _ q).2⟩
    | exc q _ =>
      cases (show u = Value.ref _ from rv)
      simp only [isiD] at e
      split at e
      · rename_i hc
        simp only [Bool.and_eq_true, decide_eq_true_eq] at hc
        obtain ⟨P, k1, k2, k3⟩ := kit_e (hK ▸ ok.clsE _ hc.1 hc.2) I q
        exact ⟨_, P, k1, k2, k3, two _ hc.1 e⟩
      · cases e
    | non => exact one rfl rfl
    | bl b => exact one rfl rfl
    | int i => exact one rfl rfl
    | str i => exact one rfl rfl
    | tup q _ => exact one rfl rfl
    | lst q _ => exact one rfl rfl
    | dic q _ _ => exact one rfl rfl
    | pr _ _ => cases e
  | lst q _ => exact one rfl rfl
  | dic q _ _ => exact one rfl rfl
  | ins q _ _ => exact ins _ _ rfl _ rfl ⟨_, _, I.hok _ _ q⟩
/-- a class's name, read -/
structure PCls (X : Cx) (e : Expr) (c : V) (u : Value) : Prop where
  pe : PE X e (tC c)
  cv : ClsV c u
theorem sb_isi {S : Stat} {ec : Expr} {c : Nat ⊕ String} {cv : V} {E : Expr} {ea : Env → Out T} (ok : WOk W S) (g : GX W Wx X) (hc : PCls X ec cv (clsVal W c)) (hs : isStar a = false) (hs2 : isStar ec = false) (ha : PE X a (tBo W Wx ea))
    (hE : ∀ {r : List V → Hp → VK → Prop} {t : TA}, CallR X (.builtin "isinstance") r → PA X [a, ec] t → PE X E (tCB r t)) :
    PE X E (tE W Wx fun ρ => (ea ρ).bind fun x ρ => Out.of ρ ((x.shal.bind fun x => isiD S x c).map fun b => .fr (.bl b))) := by
  have cr : CallR X (.builtin "isinstance") (fun vs H Q => ∃ x d b, vs = [x, cv] ∧ WRep W H d x ∧ isiD S d c = some b ∧ Q (.bl b) H) := by
    intro pins s σ H xs us Q I r ⟨x, d, b, ex, w, e, q⟩
    subst ex
    obtain ⟨u1, u2, rfl, r1, r2⟩ := vals2 r
    have e2 := hc.cv.eq r2
    subst e2
    obtain ⟨t, P, k1, k2, k3, k4⟩ := isi_D ok g.hK I r1 w e
    exact PySem.W.kia_one k1 I.kIn k2 k4 k3 fun tk => ⟨.bl b, H, I.tok tk, rfl, q⟩
  refine (hE cr (pa_cons ha (pa_cons hc.pe pa_nil (plain_star (isStar_ne hs2))) (plain_star (isStar_ne hs)))).mono fun σ H Q ⟨C, ρ, rel, q⟩ => ⟨C, ρ, rel, ?_⟩
  refine wB_bind wE_x wE_b wE_m q fun y ρ2 w H2 e2 r2 ⟨fp, p2⟩ q2 => ?_
  cases es : y.shal with
  | none => rw [es] at q2; exact q2.elim
  | some y' =>
    simp only [es, Option.bind_some] at q2
    cases eo : isiD S y' c with
    | none => rw [eo] at q2; exact q2.elim
    | some b =>
      rw [eo] at q2
      exact ⟨w, y', b, rfl, shal_wrep es p2, eo, q2 _ H2 (Ext.refl _) (r2.relT (.bl b))⟩
end
end Eg
set_option Elab.async false
set_option linter.all false
set_option maxRecDepth 100000
set_option maxHeartbeats 4000000
/-! the engine: an exception is made -/
namespace Eg
open PySem PySem.Spec PyProof.Rows L2

def xE (l : Nat) : Expr := .Call (.Attribute (.Call (.Name "super" ⟨l, 8, l, 13⟩) [] [] ⟨l, 8, l, 15⟩) "__init__" ⟨l, 8, l, 24⟩) [.Name "value" ⟨l, 25, l, 30⟩] [] ⟨l, 8, l, 31⟩
def xBody (l : Nat) : List Stmt :=
  [.Expr (xE l) ⟨l, 8, l, 31⟩, .Assign [.Attribute (.Name "self" ⟨l + 1, 8, l + 1, 12⟩) "value" ⟨l + 1, 8, l + 1, 18⟩] (.Name "value" ⟨l + 1, 21, l + 1, 26⟩) ⟨l + 1, 8, l + 1, 26⟩]
theorem xE_eval {l : Nat} (hl : l = 5 ∨ l = 8) (env : PySem.Env) : ∃ pl : Sem Bool, eval (xE l) env = (do
      let ov ← attributeBase (.Call (.Name "super" ⟨l, 8, l, 13⟩) [] [] ⟨l, 8, l, 15⟩) "__init__" env (eval (.Call (.Name "super" ⟨l, 8, l, 13⟩) [] [] ⟨l, 8, l, 15⟩) env)
      standAt (Pos.atName ⟨l, 8, l, 24⟩)
      let (f, first) ← holding [ov] (getMethod ov "__init__" pl)
      callWith ⟨l, 8, l, 31⟩ f first (backTo ⟨l, 8, l, 31⟩ (starEach [.Name "value" ⟨l, 25, l, 30⟩] env)) []) := by
  rcases hl with rfl | rfl <;> exact ⟨_, rfl⟩
def xScope : Scope := { kind := .function, names := [("self", .local), ("value", .local), ("__class__", .free), ("super", .globalImplicit)], isGenerator := false, isCoroutine := false, more := [] }
/-- the base class's own __init__, and a class above it -/
structure XF (P : Program) (K : PySem.W.Frag) (C : Addr) : Prop where
  oex : OexC K C
  fn : ∃ (D fI cc cda : Addr) (oc : Value) (od : Option Addr) (osl : Array (Option Value)) (name qual : Str) (params : Arguments) (l : Nat) (dV kV doc pm : Value) (an : Option Addr) (ct : Value)
      (vs : Array Value) (file : Str) (tf : Tok) (ccl cl : Value) (cdd cld : Option Addr) (ccs csl : Array (Option Value)) (cdD cdC : ClassData),
    (l = 5 ∨ l = 8) ∧ K.lookup fI = some ⟨oc, od, .func (PySem.W.ksFn name qual params (xBody l) xScope dV kV doc pm an (.ref cda) ct cc), osl⟩ ∧ PySem.W.codeIn K (.ref cda) qual = true ∧
    PySem.W.findIn K (.ref C) "__init__" = some (some (.ref fI)) ∧ PySem.W.typeIn K (.ref fI) = some (.type "function") ∧
    (∃ ar, (params.posonlyargs ++ params.args).head? = some ar ∧ ar.arg = ("self" : Str)) ∧
    (∀ e u : Value, bindArgs (PySem.W.ksFn name qual params (xBody l) xScope dV kV doc pm an (.ref cda) ct cc) ⟨[e, u], []⟩ = pure [(("self" : Str), e), (("value" : Str), u)]) ∧
    K.lookup cda = some ⟨ccl, cdd, .fields vs, ccs⟩ ∧ vs[2]? = some (.str file tf) ∧ ((P.main.file : Str) == file) = true ∧
    K.lookup cc = some ⟨cl, cld, .cell (some (.ref D)), csl⟩ ∧ PySem.W.clsIn K D = some cdD ∧ PySem.W.mroIn K C (.ref D) = some true ∧
    PySem.W.clsIn K C = some cdC ∧ PySem.W.alongIn K "__init__" ((cdC.mro.dropWhile (· != .ref D)).drop 1) = some (some (.builtin "ValueError.__init__"))
  ve : PySem.W.subIn K (.ref C) (.type "ValueError") = some true
  third : PySem.W.nsIn K cStatics "thirdparty.any" = some none
  nov : PySem.W.findIn K (.ref C) "value" = some none
  top : (P.main.scope.names.lookup ("super" : Str)).isSome = false

section
open PySem.W PySem.Calls
variable {prog : Program} {w : World} {A : Around} {E : Value → Shared → Prop} {K : PySem.W.Frag} {C : Addr}
/-- super().__init__(..), the wrapper called -/
theorem xw_call {hp : Heap} {g : Array GenState} {d : Drawn} {tk : Nat} {os : OsState} {x u t : Addr} {nm q : Str} {N : Addr} {bs bm : List Value} {sn : List Str} {sub : List Value} {ab : Bool} {col : Option Bool} {dd : Option Addr} {k0 k1 k2 k3 k5 : Option Value} {rest : List Value} {Q : Value → Shared → Prop}
    (hC : hp.get? C = some (excClassObj nm q C N bs bm true sn sub ab col dd k0 k1 k2 k3 k5 "ValueError.__new__")) (hu : hp.get? u = some (kxs_mw "ValueError.__init__" x)) (he : hp.get? x = some (excObj C t none .none)) (hz : rest.length ≤ sizeLine)
    (h : ∀ h' t', (∀ b o, b ≠ x → hp.get? b = some o → h'.get? b = some o) → h'.get? x = some (excObj C t' none .none) → Q .none ⟨h', g, d, tk, os⟩) :
    wpAny (model prog w) A (call (.ref u) rest) Q E ⟨hp, g, d, tk, os⟩ := by
  refine wpAny_call (codeAny_of_tree ?_)
  show wpAny _ A.in1 (callAny (.ref u) ⟨rest, []⟩) _ _ _
  simp only [callAny]
  refine wpAny_bind (wpAny_load hu ?_)
  have wr : (Value.type "method-wrapper" == Value.type "method" || Value.type "method-wrapper" == Value.type "builtin_function_or_method" || Value.type "method-wrapper" == Value.type "method-wrapper") = true := by decide
  simp only [kxs_mw, wr, if_true]
  refine KFB.if_so (by decide) ?_
  refine wpAny_bind (check_bound_init F.excBase_ValueError.toExcCallFacts hC he rfl ?_)
  refine wpAny_bind (wpAny_pure (wpAny_pure ?_))
  refine ⟨plainId_quiet F.excBase_ValueError.init.plain _, codeAny_builtin F.excBase_ValueError.initEntry ?_⟩
  exact exc_init_tree (cls := .ref C) (t0 := t) (dv := none) (c2 := .none) (c3 := .none) (b4 := .bool false) he hz fun h' k e1 e2 => h h' _ k e1
/-- C(u): the object, its dict -/
theorem x_call {R : Result → Shared → Prop} {hp : Heap} {g : Array GenState} {d : Drawn} {tk : Nat} {os : OsState} {u : Value} {mg mb : Str → Option Value} (T : XF prog K C) (KX : K.In hp) (lim : hp.NoLimit) (glob : hp.Ns mainGlobals mg) (nosup : mg "super" = none)
    (blt : hp.Ns builtinsNs mb) (hsup : mb "super" = some (.type "super")) (hroom : A.depth + 1 < recursionLimit)
    (h : ∀ (h' : Heap) (tk' : Nat) (e dx t1 : Addr), (∀ b o, hp.get? b = some o → h'.get? b = some o) → hp.objs.size ≤ e → hp.objs.size ≤ dx → dx ≠ e →
      h'.get? e = some ({ cls := .ref C, dict := some dx, data := .fields #[.ref t1, .none, .none, .none, .bool false, .none] } : Obj) → h'.Ns1 dx (fun y => if y = ("value" : Str) then some u else none) → R (.ok (.ret (.ref e))) ⟨h', g, d, tk', os⟩) :
    codeAny (model prog w) A (.call (.ref C) ⟨[u], []⟩) R ⟨hp, g, d, tk, os⟩ := by
  obtain ⟨nm, q, N, bs, bm, sn, sub, ab, col, dd, k0, k1, k2, k3, k5, hC, hbm⟩ := T.oex.cls
  obtain ⟨D, fI, cc, cda, oc, od, osl, name, qual, params, l, dV, kV, doc, pm, an, ct, vs, file, tf, ccl, cl, cdd, cld, ccs, csl, cdD, cdC, hl, hfn, hcd, iC, tI, ⟨ar, har, harn⟩, hbind, hcode, hvs, hfile, hcell, hD, hsub, hcC, hal⟩ := T.fn
  have hCg := KX _ _ hC
  refine PySem.HandSPX.call_own F.excBase_ValueError (fun Y => PySem.HandSPX.refsVE_contains Y bm hbm) hCg (looks_findIn KX iC) (fun self => bind_fn KX self tI) (by rw [sizeLine_eq]; simp) ?_
  have kk : ∀ b o, hp.get? b = some o → ((hp.push (kdv_tup [u])).push (PySem.HandSPX.excO C hp.objs.size)).get? b = some o := fun b o e => Heap.get?_push_of_some _ (Heap.get?_push_of_some _ e)
  have hget : ((hp.push (kdv_tup [u])).push (PySem.HandSPX.excO C hp.objs.size)).get? (hp.objs.size + 1) = some (PySem.HandSPX.excO C hp.objs.size) := by heap_get
  generalize hgen : (hp.push (kdv_tup [u])).push (PySem.HandSPX.excO C hp.objs.size) = h1 at kk hget
  generalize he : hp.objs.size + 1 = e at hget
  have hle : hp.objs.size ≤ e := by omega
  have KX1 : K.In h1 := KX.keeps kk
  have room1 : (A.under (.builtin "type.__call__" ⟨.ref C :: [u], []⟩)).depth < recursionLimit := by rw [make_depth]; exact hroom
  refine ks_codeAny_call_defAt (fd := ksFn name qual params (xBody l) xScope dV kV doc pm an (.ref cda) ct cc) (body := xBody l) (binds := [(("self" : Str), .ref e), (("value" : Str), u)]) room1 (KX1 _ _ hfn) rfl (lim.keeps kk) (codeRec_of KX1 hcd) rfl
    (.of_eq (hbind _ _)) (fun x hx => ?_) (fun x hx => ?_) (fun h2 hns hk2 => ?_) rfl rfl rfl
  · simp only [xScope, List.mem_cons, List.not_mem_nil, or_false] at hx
    rcases hx with rfl | rfl | rfl | rfl <;> decide
  · simp only [List.mem_cons, List.not_mem_nil, or_false] at hx
    rcases hx with rfl | rfl <;> rfl
  have k2 : ∀ b o, hp.get? b = some o → h2.get? b = some o := fun b o z => hk2 b o (kk b o z)
  have KX2 : K.In h2 := KX.keeps k2
  have hx2 := hk2 _ _ hget
  obtain ⟨oD, hD1, hD2⟩ : ∃ oD, h2.get? D = some oD ∧ oD.data = .cls cdD := by
    unfold clsIn at hD
    split at hD
    · rename_i c d cd' sl ho
      cases hD
      exact ⟨_, KX2 _ _ ho, rfl⟩
    · cases hD
  have nsS : (fun x => List.lookup x [(("self" : Str), Value.ref e), (("value" : Str), u)].reverse) ("self" : Str) = some (.ref e) := by
    have : (("self" : Str) == ("value" : Str)) = false := by decide
    simp [List.lookup, this]
  have nsV : (fun x => List.lookup x [(("self" : Str), Value.ref e), (("value" : Str), u)].reverse) ("value" : Str) = some u := by simp [List.lookup]
  obtain ⟨pl, hpl⟩ := xE_eval hl (callEnv (ksFn name qual params (xBody l) xScope dV kV doc pm an (.ref cda) ct cc) h1.objs.size fI)
  refine ks_wpAt_execs_cons (ks_wpAt_Expr_any (ks_wpAt_MethodCall (pl := pl) ?_ hpl) rfl ?_)
  · refine ks_wpAt_super_base rfl rfl (by decide) rfl (KX2 _ _ hfn) rfl har rfl (KX2 _ _ hcode) rfl hvs hfile T.top ?_
    refine ks_loadName_global rfl rfl (loadGlobal_builtin (glob.keeps k2) nosup (blt.keeps k2) hsup ⟨rfl, ?_⟩)
    refine wpAny_loadName_free rfl rfl rfl ⟨_, KX2 _ _ hcell, rfl⟩ ?_
    rw [harn]
    refine wpAny_loadName_local rfl rfl hns nsS ?_
    refine ks_wpAny_isType_cls hD1 hD2 ⟨rfl, ?_⟩
    refine ks_wpAny_call_super hD1 hD2 hx2 rfl (fun c z => nomatch z) (looks_mroIn KX2 hsub) (fun h3 hso k3 => ?_)
    have KX3 : K.In h3 := KX2.keeps k3
    have hx3 := k3 _ _ hx2
    have I3 : InstAt h3 e (PySem.HandSPX.excO C hp.objs.size) C none := ⟨hx3, rfl, rfl, True.intro⟩
    have hI : Looks (model prog w) h3 (isInstance (.ref e) (.type "ValueError")) true := I3.type.andThen (looks_subIn KX3 T.ve)
    refine kxs_getMethod kxs_ValueError hso (looks_opaque KX3 T.third) (l₀ := cdC.mro) (fun A Q E s k q => wpAny_bind ((looks_clsIn KX3 hcC) A _ E s k (wpAny_pure q))) rfl KX3 hal hI (ks_ne KX3 I3 hcC) (by decide) ?_
    have k4 : ∀ b o, h3.get? b = some o → (h3.push (kxs_mw "ValueError.__init__" e)).get? b = some o := fun b o z => Heap.get?_push_of_some _ z
    have hu4 : (h3.push (kxs_mw "ValueError.__init__" e)).get? h3.objs.size = some (kxs_mw "ValueError.__init__" e) := Heap.get?_push_at rfl rfl
    have k24 : ∀ b o, h2.get? b = some o → (h3.push (kxs_mw "ValueError.__init__" e)).get? b = some o := fun b o z => k4 b o (k3 b o z)
    refine kxs_callWith (i := "ValueError.__init__") (x := e) rfl ?_
    refine evalArgs_plain (spliced_cons (wpAny_Name (wpAny_loadName_local rfl rfl (hns.keeps k24) nsV (spliced_nil ?_))))
    refine ⟨hu4, ?_⟩
    refine xw_call (KX3.keeps k4 _ _ hC) hu4 (k4 _ _ hx3) (by rw [sizeLine_eq]; simp) (fun h5 t5 k5 hx5 => ?_)
    have hLe : h1.objs.size ≠ e := Nat.ne_of_gt (Heap.lt_size hget)
    have hns5 : h5.Ns h1.objs.size (fun x => List.lookup x [(("self" : Str), Value.ref e), (("value" : Str), u)].reverse) := by
      obtain ⟨o, es, ep, ho, r⟩ := hns
      exact ⟨o, es, ep, k5 _ _ hLe (k24 _ _ ho), r⟩
    have hpe : ∀ {b : Addr} {o : Obj}, hp.get? b = some o → b ≠ e := fun {b o} z => Nat.ne_of_lt (Nat.lt_of_lt_of_le (Heap.lt_size z) hle)
    have k05 : ∀ b o, hp.get? b = some o → h5.get? b = some o := fun b o z => k5 b o (hpe z) (k24 b o (k2 b o z))
    have KX5 : K.In h5 := KX.keeps k05
    have hcl : clsIn K C = some { name := nm, bases := bs, mro := .ref C :: bm, ns := N, qualname := q, hasDict := true, slotNames := sn, subclasses := sub, abstract := ab, collection := col, hasDel := false } := by unfold clsIn; rw [hC]
    refine ks_wpAt_execs_cons (ks_wpAt_Assign_Attr (wpAt_of_wpAny (wpAny_Name (wpAny_loadName_local rfl rfl hns5 nsV (wpAny_Name (wpAny_loadName_local rfl rfl hns5 nsS ?_))))) ?_)
    · refine set_plain KX5 (ox := { cls := .ref C, dict := none, data := .fields #[.ref t5, .none, .none, .none, .bool false, .none] }) (od := none) ⟨hx5, rfl, rfl, trivial⟩ T.oex.sa ?_
      refine PySem.HandSPX.exc_osa KX5 hx5 hcl (show PySem.HandSPX.refsVE (.ref C :: bm) = true from hbm) rfl T.nov (fun h6 tk6 dx k6 dn dne hx6 hn6 => ?_)
      refine wpAt_of_wpAny (wpAny_execs_nil ?_)
      refine ⟨rfl, h h6 tk6 e dx t5 (fun b o z => k6 b o (hpe z) (k05 b o z)) hle (Nat.le_trans hle (Nat.le_of_lt (Nat.lt_of_lt_of_le (Heap.lt_size hx5) dn))) dne hx6 hn6⟩
    · rcases hl with rfl | rfl <;> rfl
  · rcases hl with rfl | rfl <;> rfl
end

section
variable {W : Wd} {Wx : WX} {X : Cx} {pos p : Pos}
/-- what stands behind C(v): the exception, known; its dict, known -/
theorem x_inv {pins : List (Addr × Obj)} {σ : L2.St} {H : Hp} {s : Shared} {C : Addr} {v : V} {u : Value} {Q : VK} (T : XF X.prog X.K C) (nosup : X.mg "super" = none) (hroom : X.A.depth + 1 < recursionLimit) (I : Inv X pins σ H s) (rv : RelV v u)
    (q : ∀ e dx oe od, H e = none → H dx = none → dx ≠ e → oe.cls = .ref C → oe.dict = some dx → (∃ w, oe.data = .fields w) → Q (.ref e) (upd (upd H dx (.frz od (.xd [("value", v)]))) e (.frz oe (.ext fun h => h.get? e = some oe)))) :
    wpAny (model X.prog X.w) X.A (call (.ref C) [u]) (EP X pins σ Q) X.xe s := by
  obtain ⟨mb, hb1, hb2⟩ := I.ok.mod.blt
  have hsup : mb "super" = some (.type "super") := (hb2 _ (by decide)).trans (by decide +kernel)
  obtain ⟨hp, g, d, tk, os⟩ := s
  refine wpAny_call (x_call T I.kIn I.nolimit (I.mod.glob.keeps I.bk) nosup (hb1.keeps I.bk) hsup hroom fun h' tk' e dx t1 k le ld ne he hd => ?_)
  have ne' : H e = none := I.hok.fresh le
  have nd' : H dx = none := I.hok.fresh ld
  obtain ⟨od, hod⟩ : ∃ o, h'.get? dx = some o := let ⟨o, _, _, z, _⟩ := hd; ⟨o, z⟩
  refine ⟨.ref e, _, ?_, rfl, q e dx { cls := .ref C, dict := some dx, data := .fields #[.ref t1, .none, .none, .none, .bool false, .none] } od ne' nd' ne rfl rfl ⟨_, rfl⟩⟩
  have fe : ∀ {b : Addr} {o : Obj}, hp.get? b = some o → b ≠ e := fun {b o} z => Nat.ne_of_lt (Nat.lt_of_lt_of_le (Heap.lt_size z) le)
  have fd : ∀ {b : Addr} {o : Obj}, hp.get? b = some o → b ≠ dx := fun {b o} z => Nat.ne_of_lt (Nat.lt_of_lt_of_le (Heap.lt_size z) ld)
  have up : ∀ {b : Addr} {o : HO} {oe : HO} {ox : HO}, H b = some o → upd (upd H dx ox) e oe b = some o := fun {b o oe ox} z => by rw [upd_ne (ne_of_none z ne'), upd_ne (ne_of_none z nd')]; exact z
  refine I.un (h' := h') (t' := tk') ⟨fun b o z _ _ _ => k b o z, fun b o z _ _ _ => ⟨o.slots, k b o z⟩, fun b o z n _ => by rw [upd_ne (fe z), upd_ne (fd z)]; exact n, fun b o z _ => ⟨o, k b o z⟩, fun b xs z => up z, fun b o w z => up z, fun b ps z => ⟨#[], by rw [up z]; simp⟩⟩ fun b o z => ?_
  by_cases hbe : b = e
  · subst hbe
    rw [upd_same] at z; cases z
    exact ⟨he, he, ⟨_, he⟩, fun h1 h2 y kk => kk _ y⟩
  · rw [upd_ne hbe] at z
    by_cases hbd : b = dx
    · subst hbd
      rw [upd_same] at z; cases z
      refine ⟨hod, _, hd, fun f => ?_⟩
      by_cases hf : f = ("value" : Str)
      · subst hf
        rw [if_pos rfl]
        have : List.lookup ("value" : Str) [(("value" : Str), v)] = some v := by simp [List.lookup]
        rw [this]; exact rv
      · rw [if_neg hf]
        have hb : (f == ("value" : Str)) = false := beq_eq_false_iff_ne.mpr hf
        have : List.lookup f [(("value" : Str), v)] = none := by simp [List.lookup, hb]
        rw [this]; exact True.intro
    · rw [upd_ne hbd] at z
      exact (I.hok b o z).stay (fun c w _ y => k c w y) (fun c y => up y) fun c xs y => up y
/-- C(a): a new exception -/
theorem sb_mkexc {S : Stat} {x : Str} {c : Nat} {a : Expr} {ea : Env → Out D} (g : GX W Wx X) (T : XF X.prog X.K (W.cA c)) (nosup : X.mg "super" = none) (hroom : X.A.depth + 1 < recursionLimit) (hg : Gl X x) (hm : X.mg x = some (.ref (W.cA c))) (hdb : (x == ("__debug__" : Str)) = false) (hs : isStar a = false)
    (ha : PE X a (tD W Wx ea)) : PE X (.Call (.Name x p) [a] [] pos) (tE W Wx fun ρ => (ea ρ).bind fun y ρ => .ok (.fr (.exc c y)) ρ) := by
  refine ⟨fun pins s σ H Q I ⟨C, ρ, rel, q⟩ => ?_⟩
  refine wpAny_Call_Name_kw (ld_glob I hg hm ?_ hdb)
  have hpa : PA X [a] (tCons (tD W Wx ea) tNil) := pa_cons ha pa_nil (plain_star (isStar_ne hs))
  refine PySem.W.callWith_K (h₀ := X.base) I.ok.mod.kin T.oex.kC (thn (hpa.run pos pins s σ H (fun vs H1 => ∃ v y ρ1, vs = [v] ∧ Ext H H1 ∧ Rel W C ρ1 σ H1 ∧ Rep W H1 y v ∧ wE W C Wx (.ok (.fr (.exc c y)) ρ1) σ H1 Q) I ⟨C, ρ, rel, ?_⟩) fun us s1 ⟨vs, H1, I1, r, v, y, ρ1, ev, e1, r1, p1, q1⟩ => ⟨I1.kIn, ?_⟩) (plain_star (isStar_ne hs)) rfl
  · refine wD_bind wE_x wE_b wE_m q fun y ρ1 v H1 e1 r1 p1 q1 => ⟨v, y, ρ1, rfl, e1, r1, p1, q1⟩
  · subst ev
    obtain ⟨u, rfl, ru⟩ := vals1 r
    refine x_inv T nosup hroom I1 ru fun e dx oe od ne nd dne oc odc ofl => ?_
    have nt : ∀ ps, HO.frz od (.xd [("value", v)]) ≠ .tbl ps := fun _ z => nomatch z
    have hn2 : upd H1 dx (.frz od (.xd [("value", v)])) e = none := by rw [upd_ne (Ne.symm dne)]; exact ne
    have e2 : Ext H1 (upd H1 dx (.frz od (.xd [("value", v)]))) := Ext.new nd
    have e3 : Ext (upd H1 dx (.frz od (.xd [("value", v)]))) (upd (upd H1 dx (.frz od (.xd [("value", v)]))) e (.frz oe (.ext fun h => h.get? e = some oe))) := Ext.new hn2
    have r3 := (r1.new nd nt).new (o := .frz oe (.ext fun h => h.get? e = some oe)) hn2 (fun _ z => nomatch z)
    refine q1 _ _ (e2.trans e3) (r3.relT (.exc (v := v) ⟨oe, dx, ⟨oe, upd_same⟩, oc, odc, ofl, ⟨od, ?_⟩⟩ (p1.ext (e2.trans e3))))
    rw [upd_ne dne, upd_same]
end
end Eg
set_option Elab.async false
set_option linter.all false
set_option maxRecDepth 100000
set_option maxHeartbeats 4000000
/-! the engine: repr; an exception's value -/
namespace Eg
open PySem PySem.Spec PyProof.Rows L2

section
variable {W : Wd} {Wx : WX} {X : Cx} {pos p : Pos}
variable {pins : List (Addr × Obj)} {σ : L2.St} {H : Hp} {s : Shared}
def SysOk (K : PySem.W.Frag) : Prop := ∃ o, K.lookup sysModules = some o ∧ o.cls = .type "dict"
theorem trk_sys (hs : SysOk X.K) (I : Inv X pins σ H s) {a : Addr} {u : HO} (e : H a = some u) : a ≠ sysModules := fun z => by
  obtain ⟨o, h1, _⟩ := hs
  have := (I.bs _ _ (I.ok.mod.kin _ _ h1)).2
  rw [z, this] at e; cases e
theorem k_sys (hs : SysOk X.K) {a : Addr} {o : Obj} (e : X.K.lookup a = some o) (c : o.cls = .type "list") : a ≠ sysModules := fun z => by
  obtain ⟨o', h1, h2⟩ := hs
  rw [z, h1] at e; cases e
  rw [h2] at c
  injection c with c
  exact absurd c (by decide)
theorem mem_app {α : Type} {P : α → Prop} {as bs : List α} (h1 : ∀ a ∈ as, P a) (h2 : ∀ a ∈ bs, P a) : ∀ a ∈ as ++ bs, P a := fun a m => (List.mem_append.mp m).elim (h1 a) (h2 a)
/-- a list that may be read -/
theorem list_reads (hK : X.K = W.K) (hs : SysOk X.K) (I : Inv X pins σ H s) {a : Addr} {xs : List V} (h : SqL X.K H a xs) : ∃ its o n, Vals xs its ∧ s.heap.get? a = some o ∧ o.cls = .type "list" ∧ o.data = .seq its.toArray n ∧ a ≠ sysModules := by
  have z : a ≠ sysModules := by
    rcases h with (h | ⟨o, h⟩) | ⟨o, its, n, h, c, _⟩
    · exact trk_sys hs I h
    · exact trk_sys hs I h
    · exact k_sys hs h c
  obtain ⟨its, rv, ⟨o, n, ho, hc, _, hd⟩, _⟩ := I.list h
  exact ⟨its, o, n, rv, ho, hc, hd, z⟩
theorem kv_reads {P : Program} {w : World} {h : Heap} : ∀ {ks : List Key} {vs : List V} {kvs : List (Key × Value)} {es : List DictEntry}, ks.length = vs.length → KV (ks.zip vs) kvs → Pairs (mixKind P w) es kvs →
    (∃ as, ReadsAll h (es.map (·.key)) (ks.map keyPy) as ∧ ∀ a ∈ as, a ≠ sysModules) ∧ Vals vs (es.map (·.val))
  | [], [], _, _, _, .nil, .nil => ⟨⟨[], .nil, fun _ m => by cases m⟩, .nil⟩
  | k :: ks, v :: vs, _, _, l, .cons r t, .cons h1 h2 h3 => by
    obtain ⟨⟨as, q1, q2⟩, q3⟩ := kv_reads (h := h) (by simpa using l) t h3
    rename_i b _ en _
    have hk : ∃ bs, Reads h en.key (keyPy k) bs ∧ ∀ a ∈ bs, a ≠ sysModules := by
      have e : keyIs k en.key = true := by
        have r1 : k = b.1 := r.1
        rw [r1]; exact h1
      rcases keyIs_shape e with ⟨i, u, rfl, e2⟩ | ⟨x, u, rfl, e2⟩
      · rw [e2]; exact ⟨[], .int i u, fun _ m => by cases m⟩
      · rw [e2]; exact ⟨[], .str x u, fun _ m => by cases m⟩
    obtain ⟨bs, q4, q5⟩ := hk
    refine ⟨⟨_, .cons q4 q1, mem_app q5 q2⟩, .cons ?_ q3⟩
    show RelV v en.val
    rw [h2]; exact r.2
theorem pyKv_keys : ∀ {ks : List Key} {ds : List D}, ks.length = ds.length → (D.pyKv ks ds).map (·.1) = ks.map keyPy ∧ (D.pyKv ks ds).map (·.2) = D.pys ds
  | [], [], _ => by simp [D.pyKv, D.pys]
  | k :: ks, d :: ds, l => by
    obtain ⟨h1, h2⟩ := pyKv_keys (ks := ks) (ds := ds) (by simpa using l)
    simp [D.pyKv, D.pys, h1, h2]
mutual
theorem rep_reads (hK : X.K = W.K) (hs : SysOk X.K) (I : Inv X pins σ H s) : ∀ {d : D} {v : V} {u : Value}, Rep W H d v → RelV v u → d.plainO = true → ∃ as, Reads s.heap u d.py as ∧ ∀ a ∈ as, a ≠ sysModules
  | _, _, _, .non, r, _ => by cases r; exact ⟨[], by rw [D.py]; exact .none, fun _ m => by cases m⟩
  | _, _, _, .bl b, r, _ => by cases r; exact ⟨[], by rw [D.py]; exact .bool b, fun _ m => by cases m⟩
  | _, _, _, .int i, r, _ => by obtain ⟨t, rfl⟩ := r; exact ⟨[], by rw [D.py]; exact .int i t, fun _ m => by cases m⟩
  | _, _, _, .str x, r, _ => by obtain ⟨t, rfl⟩ := r; exact ⟨[], by rw [D.py]; exact .str x t, fun _ m => by cases m⟩
  | _, _, _, .tup h q, r, z => by
    cases r
    obtain ⟨its, rv, ⟨o, ho, hc, n, hd⟩, _⟩ := I.tuple (hK ▸ h.sqt)
    obtain ⟨as, hr, ha⟩ := reps_reads hK hs I q rv (by simpa [D.plainO] using z)
    exact ⟨_, by rw [D.py]; exact .tuple ho hc hd hr, ha⟩
  | _, _, _, .lst h q, r, z => by
    cases r
    obtain ⟨its, o, n, rv, ho, hc, hd, hne⟩ := list_reads hK hs I (hK ▸ h.sql)
    obtain ⟨as, hr, ha⟩ := reps_reads hK hs I q rv (by simpa [D.plainO] using z)
    exact ⟨_, by rw [D.py]; exact .list ho hc hd hr, fun b m => (List.mem_cons.mp m).elim (fun e => e ▸ hne) (ha b)⟩
  | _, _, _, .dic h q l, r, z => by
    cases r
    obtain ⟨od, h⟩ := h
    obtain ⟨_, ne, kvs, rk, o, es, ep, ho, hx, hd, hko, hp, _⟩ := (I.hok _ _ h).2
    obtain ⟨⟨as, q1, q2⟩, q3⟩ := kv_reads (h := s.heap) l rk hp
    obtain ⟨bs, q4, q5⟩ := reps_reads hK hs I q q3 (by simpa [D.plainO] using z)
    obtain ⟨k1, k2⟩ := pyKv_keys (l.trans q.length.symm)
    exact ⟨_, by rw [D.py]; exact .dict ho hx.1 hd (by rw [k1]; exact q1) (by rw [k2]; exact q4), fun b m => by
      rw [List.cons_append] at m
      rcases List.mem_cons.mp m with rfl | m
      · exact fun e => by rw [e] at ne; simp at ne
      · exact mem_app q2 q5 b m⟩
  | _, _, _, .ins _ _ _, _, z => by simp [D.plainO] at z
  | _, _, _, .exc _ _, _, z => by simp [D.plainO] at z
  | _, _, _, .pr _ _, _, z => by simp [D.plainO] at z
theorem reps_reads (hK : X.K = W.K) (hs : SysOk X.K) (I : Inv X pins σ H s) : ∀ {ds : List D} {vs : List V} {us : List Value}, Reps W H ds vs → Vals vs us → D.plainOs ds = true → ∃ as, ReadsAll s.heap us (D.pys ds) as ∧ ∀ a ∈ as, a ≠ sysModules
  | _, _, _, .nil, .nil, _ => ⟨[], by rw [D.pys]; exact .nil, fun _ m => by cases m⟩
  | _, _, _, .cons h q, .cons r1 r2, z => by
    simp only [D.plainOs, Bool.and_eq_true] at z
    obtain ⟨as, h1, h2⟩ := rep_reads hK hs I h r1 z.1
    obtain ⟨bs, h3, h4⟩ := reps_reads hK hs I q r2 z.2
    exact ⟨_, by rw [D.pys]; exact .cons h1 h3, mem_app h2 h4⟩
end
/-- the same of what is looked at -/
theorem wrep_reads (hK : X.K = W.K) (hs : SysOk X.K) (I : Inv X pins σ H s) {d : D} {v : V} {u : Value} (h : WRep W H d v) (r : RelV v u) (z : d.plainO = true) : ∃ as, Reads s.heap u d.py as ∧ ∀ a ∈ as, a ≠ sysModules := by
  cases h with
  | rep h => exact rep_reads hK hs I h r z
  | lst h q =>
    cases r
    obtain ⟨its, o, n, rv, ho, hc, hd, hne⟩ := list_reads hK hs I (.inl (.inl h))
    obtain ⟨as, hr, ha⟩ := reps_reads hK hs I q rv (by simpa [D.plainO] using z)
    exact ⟨_, by rw [D.py]; exact .list ho hc hd hr, fun b m => (List.mem_cons.mp m).elim (fun e => e ▸ hne) (ha b)⟩
  | dic h q l =>
    cases r
    obtain ⟨_, ne, kvs, rk, o, es, ep, ho, hx, hd, hko, hp, _⟩ := I.hok _ _ h
    obtain ⟨⟨as, q1, q2⟩, q3⟩ := kv_reads (h := s.heap) l rk hp
    obtain ⟨bs, q4, q5⟩ := reps_reads hK hs I q q3 (by simpa [D.plainO] using z)
    obtain ⟨k1, k2⟩ := pyKv_keys (l.trans q.length.symm)
    exact ⟨_, by rw [D.py]; exact .dict ho hx.1 hd (by rw [k1]; exact q1) (by rw [k2]; exact q4), fun b m => by
      rw [List.cons_append] at m
      rcases List.mem_cons.mp m with rfl | m
      · exact fun e => by rw [e] at ne; simp at ne
      · exact mem_app q2 q5 b m⟩
  | ins _ _ _ => simp [D.plainO] at z
theorem c_repr (g : GX W Wx X) (hs : SysOk X.K) : CallD W X (.builtin "repr") (biD reprD .repr) := by
  intro pins s σ H vs us Q I r ⟨ds, t, w, e, q⟩
  obtain ⟨x, rfl⟩ := biD1 (.inr (.inr (.inr (.inr (.inr (.inl rfl)))))) e
  obtain ⟨v, rfl, h⟩ := wreps1 w
  obtain ⟨u, rfl, rv⟩ := vals1 r
  simp only [biD] at e
  obtain ⟨z, e1, rfl⟩ := Option.map_eq_some_iff.mp e
  unfold reprD at e1
  split at e1
  · rename_i hc
    cases e1
    simp only [Bool.and_eq_true, decide_eq_true_eq] at hc
    obtain ⟨⟨⟨c1, c2⟩, c3⟩, c4⟩ := hc
    obtain ⟨as, rd, ha⟩ := wrep_reads g.hK hs I h rv c1
    have hsz : x.py.shown.length ≤ sizeLine := by rw [sizeLine_eq]; exact c4
    have hu := g.hu
    have hsm : x.py.hasDict = true → sysModules ∉ as := fun _ m => ha _ m rfl
    have key : ∀ {a : Addr}, u = .ref a → wpAny (model X.prog X.w) X.A (call (.builtin "repr") [u]) (EP X pins σ Q) X.xe s := fun {a} eu => by
      subst eu
      exact repr_of_reads' rd c2 hsm g.hg (by omega) (fun _ _ z => z) (fun h' u' tk k => ⟨.str _, H, I.kept (t' := tk) k, ⟨_, rfl⟩, frD q (.str _)⟩) hsz
    generalize x.py = y at rd c2 hsz q
    cases rd with
    | none => exact PySem.P.repr_of_none ⟨.str _, H, I.tok _, ⟨_, rfl⟩, frD q (.str _)⟩
    | bool b => exact PySem.P.repr_of_bool ⟨.str _, H, I.tok _, ⟨_, rfl⟩, frD q (.str _)⟩
    | int i t => exact PySem.P.repr_of_int (by simpa [PyData.showable] using c2) ⟨.str _, H, I.tok _, ⟨_, rfl⟩, frD q (.str _)⟩
    | str y t => exact PySem.P.repr_of_str ⟨.str _, H, I.tok _, ⟨_, rfl⟩, frD q (.str _)⟩ (by simpa [PyData.shown] using hsz)
    | list h1 h2 h3 h4 => exact key rfl
    | tuple h1 h2 h3 h4 => exact key rfl
    | dict h1 h2 h3 h4 h5 => exact key rfl
  · cases e1
end
end Eg
set_option Elab.async false
set_option linter.all false
set_option maxRecDepth 100000
set_option maxHeartbeats 4000000
/-! the engine: what a def promises; calls -/
namespace Eg
open PySem PySem.Spec PyProof.Rows L2

/-- behind a call: what it was given (In: the footprint of what is own among it), what is there now -/
structure PostC (W : Wd) (vs : List V) (H : Hp) (In : List Addr) (H' : Hp) (fin : Env) (ft : List Addr) : Prop where
  ext : Ext H H'
  keep : ∀ b o, H b = some o → b ∉ In → (∀ ps, o ≠ .tbl ps) → H' b = some o
  dom : ∀ b, H b ≠ none → H' b ≠ none
  tabs : LamX.Tabs W.T H'
  own : ∃ fs, SlRs W H' fin (vs.map some) fs ∧ (fs ++ ft).Nodup ∧ ∀ a ∈ fs ++ ft, a ∈ In ∨ H a = none
def wF (W : Wd) (vs : List V) (H : Hp) (In : List Addr) (o : OutF) (Q : VK) (E : XK) : Prop := match o with
  | .ret t fin => ∀ v H' ft, Own W H' t v ft → PostC W vs H In H' fin ft → Q v H'
  | .exc d fin => ∀ cls dx H', RepX W H H' d cls dx → PostC W vs H In H' fin [] → E cls dx H'
  | .bad => False
structure FnE (W : Wd) (P : Program) (w : World) (mg : Str → Option Value) (base : Heap) (k : Nat) (fa : Addr) (fd : FuncData) (ps : List Str) (f : Env → OutF) : Prop where
  len : ∀ args, f args ≠ .bad → args.length = ps.length
  run : ∀ (A : Around) (outer : List PySem.Env) (s : Shared) (H : Hp) (as : Args) (us : List Value) (vs : List V) (args : Env) (In : List Addr) (Q : VK) (E : XK), Room k A → A.guards = some [] → Env0 P w W.K mg base A outer s H → BindsTo s fd as (ps.zip us) → Vals vs us →
    SlRs W H args (vs.map some) In → In.Nodup → LamX.Tabs W.T H → wF W vs H In (f args) Q E → codeAny (model P w) A (.call (.ref fa) as) (CR (CX P w) outer P w H s Q E) s

section
variable {W : Wd} {Wx : WX} {X : Cx} {pos p : Pos}
/-- arguments that were reckoned -/
inductive ArsR (W : Wd) (H : Hp) (σ : L2.St) : List Ar → List V → List Addr → Prop where
  | nil : ArsR W H σ [] [] []
  | tm {t : T} {v : V} {f : List Addr} {as : List Ar} {vs : List V} {fs : List Addr} : Own W H t v f → ArsR W H σ as vs fs → ArsR W H σ (.tm t :: as) (v :: vs) (f ++ fs)
  | io {i : Nat} {v : V} {as : List Ar} {vs : List V} {fs : List Addr} : σ[i]? = some (some v) → ArsR W H σ as vs fs → ArsR W H σ (.io i :: as) (v :: vs) fs
theorem ArsR.live {H : Hp} {σ : L2.St} : ∀ {as : List Ar} {vs : List V} {fs : List Addr}, ArsR W H σ as vs fs → ∀ a ∈ fs, Live H a
  | _, _, _, .nil, a, m => by cases m
  | _, _, _, .tm h r, a, m => (List.mem_append.mp m).elim (h.live a) (r.live a)
  | _, _, _, .io _ r, a, m => r.live a m
theorem ArsR.ext {H H' : Hp} {σ : L2.St} (e : Ext H H') : ∀ {as : List Ar} {vs : List V} {fs : List Addr}, ArsR W H σ as vs fs → (∀ a ∈ fs, H' a = H a) → ArsR W H' σ as vs fs
  | _, _, _, .nil, _ => .nil
  | _, _, _, .tm h r, k => .tm (h.ext e fun a m => k a (by simp [m])) (r.ext e fun a m => k a (by simp [m]))
  | _, _, _, .io h r, k => .io h (r.ext e k)
def RelA (W : Wd) (C : Fx) (ρ : Env) (σ : L2.St) (H : Hp) (as : List Ar) (vs : List V) : Prop := ∃ fp ex, ArsR W H σ as vs ex ∧ RelP W C ρ σ H fp ex
def wAs (W : Wd) (C : Fx) (Wx : WX) (o : Out (List Ar)) (σ : L2.St) (H : Hp) (Q : List V → Hp → Prop) : Prop := match o with
  | .ok as ρ => ∀ vs H', Ext H H' → RelA W C ρ σ H' as vs → Q vs H'
  | .exc d ρ => xWay W C Wx d ρ σ H
  | .bad => False
def tAs (W : Wd) (Wx : WX) (ev : Env → Out (List Ar)) : TA := fun σ H Q => ∃ C ρ, Rel W C ρ σ H ∧ wAs W C Wx (ev ρ) σ H Q
theorem wAs.mono {C : Fx} {σ : L2.St} {H H1 : Hp} {o : Out (List Ar)} {Q : List V → Hp → Prop} (e : Ext H H1) (h : wAs W C Wx o σ H Q) : wAs W C Wx o σ H1 Q := by
  cases o with
  | ok t ρ => exact fun vs H' e' => h vs H' (e.trans e')
  | exc d ρ => exact xWay.mono e h
  | bad => exact h
/-- steps on a ground of their own: back, whatever they hold -/
theorem RelP.back2 {C : Fx} {ρ : Env} {σ : L2.St} {H : Hp} {fp ex : List Addr} (h : RelP W C ρ σ H fp ex) (lv : ∀ a ∈ ex, Live H a) {ρ2 : Env} {σ2 : L2.St} {H2 : Hp} {fp2 ex2 : List Addr} (r : RelP W ⟨H, fp, C.fix⟩ ρ2 σ2 H2 fp2 ex2) :
    (∀ a ∈ ex, H2 a = H a) ∧ RelP W C ρ2 σ2 H2 fp2 (ex ++ ex2) := by
  obtain ⟨n1, n2, n3⟩ := List.nodup_append.mp h.nd
  obtain ⟨m1, m2, m3⟩ := List.nodup_append.mp r.nd
  have ke : ∀ a ∈ ex, H2 a = H a := fun a m => by
    have hn : a ∉ fp := fun z => n3 a z a m rfl
    rcases lv a m with ⟨_, e⟩ | ⟨_, e⟩ | ⟨_, _, _, e⟩ <;> rw [e] <;> exact r.frame a _ e hn (fun _ z => nomatch z)
  have out : ∀ a ∈ fp2 ++ ex2, a ∉ ex := fun a m m2 => by
    rcases r.own a m with y | y
    · exact n3 a y a m2 rfl
    · obtain ⟨u, e, _⟩ := (lv a m2).some
      have y : H a = none := y
      rw [e] at y; cases y
  refine ⟨ke, r.slots, ?_, fun a m => ?_, fun b u q n nt => ?_, fun b q => r.dom b (h.dom b q), r.fix, r.tabs⟩
  · refine List.nodup_append.mpr ⟨m1, List.nodup_append.mpr ⟨n2, m2, fun a m b m' z => out b (by simp [m']) (z ▸ m)⟩, fun a m b m' z => ?_⟩
    rcases List.mem_append.mp m' with m' | m'
    · exact out a (by simp [m]) (z ▸ m')
    · exact m3 a m b m' z
  · have up : ∀ a ∈ fp2 ++ ex2, a ∈ C.In ∨ C.G a = none := fun a m => by
      rcases r.own a m with y | y
      · exact h.own a (by have y : a ∈ fp := y; simp [y])
      · exact .inr (h.fresh y)
    rcases List.mem_append.mp m with m | m
    · exact up a (by simp [m])
    · rcases List.mem_append.mp m with m | m
      · exact h.own a (by simp [m])
      · exact up a (by simp [m])
  · refine r.frame b u (h.frame b u q n nt) (fun z => ?_) nt
    rcases h.own b (by have z : b ∈ fp := z; simp [z]) with y | y
    · exact n y
    · rw [q] at y; cases y
theorem RelP.base2 {C : Fx} {ρ : Env} {σ : L2.St} {H : Hp} {fp ex : List Addr} (h : RelP W C ρ σ H fp ex) : RelP W ⟨H, fp, C.fix⟩ ρ σ H fp [] :=
  ⟨h.slots, by simpa using (List.nodup_append.mp h.nd).1, fun a m => .inl (by simpa using m), fun _ _ e _ _ => e, fun _ e => e, h.fix, h.tabs⟩

variable {e : Expr} {es : List Expr}
theorem sb_anil : PA X [] (tAs W Wx fun ρ => .ok [] ρ) :=
  pa_nil.mono fun σ H Q ⟨C, ρ, ⟨fp, rel⟩, q⟩ => q [] H (Ext.refl _) ⟨fp, [], .nil, rel⟩
theorem sb_aio {i : Nat} {x : Str} {er : Env → Out (List Ar)} (hN : X.N[i]? = some x) (hv : Vis X.env.scope x) (hd : (x == ("__debug__" : Str)) = false) (hcd : (x == ("__classdict__" : Str)) = false) (hr : PA X es (tAs W Wx er)) :
    PA X (.Name x p :: es) (tAs W Wx fun ρ => if boundS ρ i then (er ρ).bind fun as ρ => .ok (.io i :: as) ρ else .bad) := by
  refine (pa_cons (pe_var (pos := p) hN hv hd hcd) hr (plain_star fun _ _ z => nomatch z)).mono fun σ H Q ⟨C, ρ, rel, q⟩ => ?_
  cases hb : boundS ρ i with
  | false => simp only [hb] at q; exact q.elim
  | true =>
    simp only [hb, if_true] at q
    obtain ⟨v, ev⟩ := rel.bound hb
    refine ⟨v, ev, C, ρ, rel, ?_⟩
    cases eo : er ρ with
    | bad => simp only [eo, Out.bind] at q; exact q.elim
    | exc d ρ1 => simp only [eo, Out.bind] at q; exact q
    | ok as ρ1 =>
      simp only [eo, Out.bind] at q
      exact fun vs H' e' ⟨fp, ex, ar, r⟩ => q (v :: vs) H' e' ⟨fp, ex, .io ev ar, r⟩
theorem sb_atm {ea : Env → Out T} {er : Env → Out (List Ar)} (hs : isStar e = false) (ha : PE X e (tE W Wx ea)) (hr : PA X es (tAs W Wx er)) :
    PA X (e :: es) (tAs W Wx fun ρ => (ea ρ).bind fun t ρ => (er ρ).bind fun as ρ => .ok (.tm t :: as) ρ) := by
  refine (pa_cons ha hr (plain_star (isStar_ne hs))).mono fun σ H Q ⟨C, ρ, rel, q⟩ => ⟨C, ρ, rel, ?_⟩
  cases eo : ea ρ with
  | bad => simp only [eo, Out.bind] at q; exact q.elim
  | exc d ρ1 => simp only [eo, Out.bind] at q; exact q
  | ok t ρ1 =>
    simp only [eo, Out.bind] at q
    intro v H1 e1 ⟨fp, ft, ow, r1⟩
    refine ⟨⟨H1, fp, C.fix⟩, ρ1, ⟨fp, r1.base2⟩, ?_⟩
    cases eo2 : er ρ1 with
    | bad => simp only [eo2] at q; exact q.elim
    | exc d ρ2 => simp only [eo2] at q; exact xWay.rebase r1 ow.live e1 q
    | ok as ρ2 =>
      simp only [eo2] at q
      intro vs H2 e2 ⟨fp2, ex2, ar, r2⟩
      obtain ⟨ke, r3⟩ := r1.back2 ow.live r2
      exact q (v :: vs) H2 (e1.trans e2) ⟨fp2, ft ++ ex2, .tm (ow.ext e2 ke) ar, r3⟩

theorem sb_afz {ea : Env → Out D} {er : Env → Out (List Ar)} (hs : isStar e = false) (ha : PE X e (tD W Wx ea)) (hr : PA X es (tAs W Wx er)) :
    PA X (e :: es) (tAs W Wx fun ρ => (ea ρ).bind fun d ρ => (er ρ).bind fun as ρ => .ok (.tm (.fr d) :: as) ρ) := by
  refine (pa_cons ha hr (plain_star (isStar_ne hs))).mono fun σ H Q ⟨C, ρ, rel, q⟩ => ⟨C, ρ, rel, ?_⟩
  cases eo : ea ρ with
  | bad => simp only [eo, Out.bind] at q; exact q.elim
  | exc d ρ1 => simp only [eo, Out.bind] at q; exact q
  | ok d ρ1 =>
    simp only [eo, Out.bind] at q
    intro v H1 e1 rel1 rp
    refine ⟨C, ρ1, rel1, ?_⟩
    cases eo2 : er ρ1 with
    | bad => simp only [eo2] at q; exact q.elim
    | exc d2 ρ2 => simp only [eo2] at q; exact xWay.mono e1 q
    | ok as ρ2 =>
      simp only [eo2] at q
      intro vs H2 e2 ⟨fp2, ex2, ar, r2⟩
      exact q (v :: vs) H2 (e1.trans e2) ⟨fp2, ex2, ArsR.tm (f := []) (.fr (rp.ext e2)) ar, r2⟩

/-! ### the arguments' slots -/
theorem SlRs.valAt {H : Hp} {ρ : Env} {σ : L2.St} {fp : List Addr} {i : Nat} {d : D} (h : SlRs W H ρ σ fp) (e : ρ[i]? = some (.val d)) : ∃ v, σ[i]? = some (some v) ∧ Rep W H d v := by
  obtain ⟨o, f1, f2, f3, h1, _, h3, _⟩ := h.at e
  cases h3 with
  | val r => exact ⟨_, h1, r⟩
theorem own_fr {H : Hp} {d : D} {v : V} {f : List Addr} (h : Own W H (.fr d) v f) : Rep W H d v ∧ f = [] := by
  cases h with
  | fr r => exact ⟨r, rfl⟩
/-- the own one is not among these -/
theorem arSl_none {H : Hp} {ρ : Env} {σ : L2.St} {fp : List Addr} (sl : SlRs W H ρ σ fp) : ∀ {as : List Ar} {vs : List V} {ex : List Addr} {args : Env}, ArsR W H σ as vs ex → arSl ρ as = some (args, none) → ex = [] ∧ SlRs W H args (vs.map some) []
  | [], _, _, _, .nil, e => by simp [arSl] at e; subst e; exact ⟨rfl, .nil⟩
  | .tm t :: as, _, _, args, .tm h r, e => by
    simp only [arSl] at e
    cases t with
    | fr d =>
      cases er : arSl ρ as with
      | none => rw [er] at e; cases e
      | some z =>
        obtain ⟨ss, o⟩ := z
        rw [er] at e
        cases o with
        | some _ => simp at e
        | none =>
          simp at e; subst e
          obtain ⟨h1, rfl⟩ := own_fr h
          obtain ⟨rfl, h2⟩ := arSl_none sl r er
          exact ⟨rfl, .cons (.val h1) h2⟩
    | _ =>
      cases er : arSl ρ as with
      | none => rw [er] at e; cases e
      | some z =>
        obtain ⟨ss, o⟩ := z
        rw [er] at e
        cases o <;> simp at e
  | .io i :: as, _, _, args, .io h r, e => by
    simp only [arSl] at e
    cases es : ρ[i]? with
    | none => rw [es] at e; cases e
    | some s =>
      cases er : arSl ρ as with
      | none => rw [es, er] at e; cases s <;> cases e
      | some z =>
        obtain ⟨ss, o⟩ := z
        rw [es, er] at e
        cases s with
        | unb => cases e
        | own t => cases o <;> simp at e
        | val d =>
          cases o with
          | some _ => simp at e
          | none =>
            simp at e; subst e
            obtain ⟨v, h1, h2⟩ := sl.valAt es
            rw [h] at h1; cases h1
            obtain ⟨rfl, h3⟩ := arSl_none sl r er
            exact ⟨rfl, .cons (.val h2) h3⟩
/-- the own one is a name's -/
theorem arSl_io {H : Hp} {ρ : Env} {σ : L2.St} {fp f2 : List Addr} {i0 : Nat} {t0 : T} {v0 : V} (sl : SlRs W H ρ σ fp) (e0 : ρ[i0]? = some (.own t0)) (s0 : σ[i0]? = some (some v0)) (ow : Own W H t0 v0 f2) : ∀ {as : List Ar} {vs : List V} {ex : List Addr} {args : Env} {p0 : Nat}, ArsR W H σ as vs ex →
    arSl ρ as = some (args, some (p0, some i0)) → ex = [] ∧ SlRs W H args (vs.map some) f2 ∧ args[p0]? = some (.own t0) ∧ vs[p0]? = some v0
  | [], _, _, _, _, .nil, e => by simp [arSl] at e
  | .tm t :: as, _, _, args, p0, .tm h r, e => by
    simp only [arSl] at e
    cases t with
    | fr d =>
      cases er : arSl ρ as with
      | none => rw [er] at e; cases e
      | some z =>
        obtain ⟨ss, o⟩ := z
        rw [er] at e
        cases o with
        | none => simp at e
        | some q =>
          obtain ⟨q1, q2⟩ := q
          simp at e
          obtain ⟨e1, e2, e3⟩ := e
          subst e1 e2 e3
          obtain ⟨h1, rfl⟩ := own_fr h
          obtain ⟨rfl, h2, h3, h4⟩ := arSl_io sl e0 s0 ow r er
          exact ⟨rfl, .cons (.val h1) h2, by simpa using h3, by simpa using h4⟩
    | _ =>
      cases er : arSl ρ as with
      | none => rw [er] at e; cases e
      | some z =>
        obtain ⟨ss, o⟩ := z
        rw [er] at e
        cases o <;> simp at e
  | .io i :: as, _, _, args, p0, .io h r, e => by
    simp only [arSl] at e
    cases es : ρ[i]? with
    | none => rw [es] at e; cases e
    | some s =>
      cases er : arSl ρ as with
      | none => rw [es, er] at e; cases s <;> cases e
      | some z =>
        obtain ⟨ss, o⟩ := z
        rw [es, er] at e
        cases s with
        | unb => cases e
        | own t =>
          cases o with
          | some _ => simp at e
          | none =>
            simp at e
            obtain ⟨e1, e2, e3⟩ := e
            subst e1 e2 e3
            rw [e0] at es; cases es
            rw [s0] at h; cases h
            obtain ⟨rfl, h3⟩ := arSl_none sl r er
            refine ⟨rfl, ?_, rfl, rfl⟩
            have := SlRs.cons (SlR.own ow) h3
            simpa using this
        | val d =>
          cases o with
          | none => simp at e
          | some q =>
            obtain ⟨q1, q2⟩ := q
            simp at e
            obtain ⟨e1, e2, e3⟩ := e
            subst e1 e2 e3
            obtain ⟨v, h1, h2⟩ := sl.valAt es
            rw [h] at h1; cases h1
            obtain ⟨rfl, h3, h4, h5⟩ := arSl_io sl e0 s0 ow r er
            exact ⟨rfl, .cons (.val h2) h3, by simpa using h4, by simpa using h5⟩
/-- the own one was just made -/
theorem arSl_tm {H : Hp} {ρ : Env} {σ : L2.St} {fp : List Addr} (sl : SlRs W H ρ σ fp) : ∀ {as : List Ar} {vs : List V} {ex : List Addr} {args : Env} {p0 : Nat}, ArsR W H σ as vs ex →
    arSl ρ as = some (args, some (p0, none)) → SlRs W H args (vs.map some) ex
  | [], _, _, _, _, .nil, e => by simp [arSl] at e
  | .tm t :: as, _, _, args, p0, .tm (v := v') (f := f') (vs := vs') (fs := fs') h r, e => by
    simp only [arSl] at e
    have own : (∀ d, t ≠ .fr d) → arSl ρ (.tm t :: as) = some (args, some (p0, none)) → SlRs W H args (List.map some (v' :: vs')) (f' ++ fs') := fun hn e => by
      cases er : arSl ρ as with
      | none => cases t <;> simp only [arSl, er] at e <;> cases e
      | some z =>
        obtain ⟨ss, o⟩ := z
        cases o with
        | some _ => cases t <;> simp only [arSl, er] at e <;> first | cases e | exact absurd rfl (hn _)
        | none =>
          obtain ⟨rfl, h3⟩ := arSl_none sl r er
          have e1 : args = .own t :: ss := by cases t <;> simp only [arSl, er] at e <;> first | exact absurd rfl (hn _) | (simp at e; exact e.1.symm)
          subst e1
          exact .cons (.own h) h3
    cases t with
    | fr d =>
      cases er : arSl ρ as with
      | none => rw [er] at e; cases e
      | some z =>
        obtain ⟨ss, o⟩ := z
        rw [er] at e
        cases o with
        | none => simp at e
        | some q =>
          obtain ⟨q1, q2⟩ := q
          simp at e
          obtain ⟨e1, e2, e3⟩ := e
          subst e1 e2 e3
          obtain ⟨h1, rfl⟩ := own_fr h
          exact .cons (.val h1) (arSl_tm sl r er)
    | lst ts => exact own (fun _ z => nomatch z) (by simp only [arSl]; exact e)
    | dic ks ts => exact own (fun _ z => nomatch z) (by simp only [arSl]; exact e)
    | ins c ts => exact own (fun _ z => nomatch z) (by simp only [arSl]; exact e)
  | .io i :: as, _, _, args, p0, .io h r, e => by
    simp only [arSl] at e
    cases es : ρ[i]? with
    | none => rw [es] at e; cases e
    | some s =>
      cases er : arSl ρ as with
      | none => rw [es, er] at e; cases s <;> cases e
      | some z =>
        obtain ⟨ss, o⟩ := z
        rw [es, er] at e
        cases s with
        | unb => cases e
        | own t => cases o <;> simp at e
        | val d =>
          cases o with
          | none => simp at e
          | some q =>
            obtain ⟨q1, q2⟩ := q
            simp at e
            obtain ⟨e1, e2, e3⟩ := e
            subst e1 e2 e3
            obtain ⟨v, h1, h2⟩ := sl.valAt es
            rw [h] at h1; cases h1
            exact .cons (.val h2) (arSl_tm sl r er)
theorem live_ntbl {H : Hp} {a : Addr} (l : Live H a) : ∃ o, H a = some o ∧ ∀ ps, o ≠ .tbl ps := by
  rcases l with ⟨_, h⟩ | ⟨_, h⟩ | ⟨_, _, _, h⟩ <;> exact ⟨_, h, fun _ z => nomatch z⟩
/-- behind a call that was given nothing of ours, or what was just made -/
theorem back_plain {C : Fx} {ρ : Env} {σ : L2.St} {H H' : Hp} {fp ex ft : List Addr} {vs : List V} {fin : Env} (r : RelP W C ρ σ H fp ex) (q : PostC W vs H ex H' fin ft) : RelP W C ρ σ H' fp ft := by
  obtain ⟨fs, s1, s2, s3⟩ := q.own
  obtain ⟨n1, n2, n3⟩ := List.nodup_append.mp r.nd
  obtain ⟨m1, m2, m3⟩ := List.nodup_append.mp s2
  have kp : ∀ a ∈ fp, H' a = H a := fun a m => by
    obtain ⟨o, h1, h2⟩ := live_ntbl (r.slots.live a m)
    rw [h1]; exact q.keep a o h1 (fun z => n3 a m a z rfl) h2
  refine ⟨r.slots.ext q.ext kp, List.nodup_append.mpr ⟨n1, m2, fun a m b m' z => ?_⟩, fun a m => ?_, fun b u g n nt => ?_, fun b g => q.dom b (r.dom b g), r.fix, q.tabs⟩
  · subst z
    rcases s3 a (by simp [m']) with y | y
    · exact n3 a m a y rfl
    · obtain ⟨o, h1, _⟩ := live_ntbl (r.slots.live a m)
      rw [y] at h1; cases h1
  · rcases List.mem_append.mp m with m | m
    · exact r.own a (by simp [m])
    · rcases s3 a (by simp [m]) with y | y
      · exact r.own a (by simp [y])
      · exact .inr (r.fresh y)
  · refine q.keep b u (r.frame b u g n nt) (fun z => ?_) nt
    rcases r.own b (by simp [z]) with y | y
    · exact n y
    · rw [g] at y; cases y
/-- behind a call that was given a name's own thing -/
theorem back_io {C : Fx} {ρ : Env} {σ : L2.St} {H H' : Hp} {f1 f2 f3 ft : List Addr} {i p0 : Nat} {v0 : V} {s : Sl} {vs : List V} {fin : Env} (r : RelP W C ρ σ H (f1 ++ (f2 ++ f3)) []) (si : σ[i]? = some (some v0))
    (mk : ∀ (H' : Hp) (s' : Sl) (o' : Option V) (f' : List Addr), Ext H H' → (∀ a ∈ f1 ++ f3, H' a = H a) → SlR W H' s' o' f' → SlRs W H' (ρ.set i s') (σ.set i o') (f1 ++ (f' ++ f3)))
    (q : PostC W vs H f2 H' fin ft) (hv : vs[p0]? = some v0) (hf : fin[p0]? = some s) : ∃ fp', RelP W C (ρ.set i s) σ H' fp' ft := by
  obtain ⟨fs, s1, s2, s3⟩ := q.own
  have nd := r.nd
  simp only [List.append_nil] at nd
  obtain ⟨n1, n2, n3⟩ := List.nodup_append.mp nd
  obtain ⟨l1, l2, l3⟩ := List.nodup_append.mp n2
  have lv := r.slots.live
  have k13 : ∀ a ∈ f1 ++ f3, a ∉ f2 := fun a m z => by
    rcases List.mem_append.mp m with m | m
    · exact n3 a m a (by simp [z]) rfl
    · exact l3 a z a m rfl
  have kp : ∀ a ∈ f1 ++ f3, H' a = H a := fun a m => by
    obtain ⟨o, h1, h2⟩ := live_ntbl (lv a (by simp at m ⊢; rcases m with m | m <;> simp [m]))
    rw [h1]; exact q.keep a o h1 (k13 a m) h2
  obtain ⟨o', g1, g2, g3, e1, e2, e3, _⟩ := s1.at hf
  have ev : o' = some v0 := by
    rw [List.getElem?_map, hv] at e1
    exact (Option.some.inj e1).symm
  subst ev
  have es := mk H' s (some v0) g2 q.ext kp e3
  rw [set_same si] at es
  subst e2
  obtain ⟨m1, m2, m3⟩ := List.nodup_append.mp s2
  obtain ⟨m4, m5, m6⟩ := List.nodup_append.mp m1
  obtain ⟨m7, m8, m9⟩ := List.nodup_append.mp m5
  have new : ∀ a ∈ g2 ++ ft, a ∉ f1 ++ f3 := fun a m z => by
    rcases s3 a (by simp at m ⊢; rcases m with m | m <;> simp [m]) with y | y
    · exact k13 a z y
    · obtain ⟨o, h1, _⟩ := live_ntbl (lv a (by simp at z ⊢; rcases z with z | z <;> simp [z]))
      rw [y] at h1; cases h1
  refine ⟨f1 ++ (g2 ++ f3), es, ?_, fun a m => ?_, fun b u g n nt => ?_, fun b g => q.dom b (r.dom b g), r.fix, q.tabs⟩
  · refine List.nodup_append.mpr ⟨List.nodup_append.mpr ⟨n1, List.nodup_append.mpr ⟨m7, l2, fun a m b m' z => new a (by simp [m]) (by simp [z, m'])⟩, fun a m b m' z => ?_⟩, m2, fun a m b m' z => ?_⟩
    · rcases List.mem_append.mp m' with m' | m'
      · exact new b (by simp [m']) (by simp [← z, m])
      · exact n3 a m b (by simp [m']) z
    · rcases List.mem_append.mp m with m | m
      · exact new b (by simp [m']) (by simp [← z, m])
      · rcases List.mem_append.mp m with m | m
        · exact m3 a (by simp [m]) b m' z
        · exact new b (by simp [m']) (by simp [← z, m])
  · have up : ∀ a, (a ∈ f2 ∨ H a = none) → a ∈ C.In ∨ C.G a = none := fun a y => by
      rcases y with y | y
      · exact r.own a (by simp [y])
      · exact .inr (r.fresh y)
    rcases List.mem_append.mp m with m | m
    · rcases List.mem_append.mp m with m | m
      · exact r.own a (by simp [m])
      · rcases List.mem_append.mp m with m | m
        · exact up a (s3 a (by simp [m]))
        · exact r.own a (by simp [m])
    · exact up a (s3 a (by simp [m]))
  · refine q.keep b u (r.frame b u g n nt) (fun z => ?_) nt
    rcases r.own b (by simp [z]) with y | y
    · exact n y
    · rw [g] at y; cases y
/-- what a call is given, and the way back -/
theorem call_way {C : Fx} {ρ : Env} {σ : L2.St} {H : Hp} {as : List Ar} {vs : List V} {args : Env} {o : Option (Nat × Option Nat)} (r : RelA W C ρ σ H as vs) (e : arSl ρ as = some (args, o)) :
    ∃ In, SlRs W H args (vs.map some) In ∧ In.Nodup ∧ ∀ H' fin ft ρ', PostC W vs H In H' fin ft → backAr ρ fin o = some ρ' → ∃ fp', RelP W C ρ' σ H' fp' ft := by
  obtain ⟨fp, ex, ar, r⟩ := r
  obtain ⟨n1, n2, n3⟩ := List.nodup_append.mp r.nd
  rcases o with _ | ⟨p0, _ | i⟩
  · obtain ⟨rfl, h1⟩ := arSl_none r.slots ar e
    exact ⟨[], h1, by simp, fun H' fin ft ρ' q b => by simp [backAr] at b; subst b; exact ⟨fp, back_plain r q⟩⟩
  · have h1 := arSl_tm r.slots ar e
    exact ⟨ex, h1, n2, fun H' fin ft ρ' q b => by simp [backAr] at b; subst b; exact ⟨fp, back_plain r q⟩⟩
  · have hown : ∃ t0, ρ[i]? = some (.own t0) := by
      clear r n1 n2 n3
      induction as generalizing vs ex args p0 with
      | nil => simp [arSl] at e
      | cons a as ih =>
        cases a with
        | tm t =>
          simp only [arSl] at e
          cases er : arSl ρ as with
          | none => rw [er] at e; cases t <;> cases e
          | some z =>
            obtain ⟨ss, o⟩ := z
            rw [er] at e
            cases ar with
            | tm _ ar =>
              cases t <;> cases o <;> simp at e
              rename_i q
              obtain ⟨q1, q2⟩ := q
              simp at e
              obtain ⟨e1, e2, e3⟩ := e
              subst e3
              first | exact ih _ ar er | (apply ih <;> assumption)
        | io j =>
          simp only [arSl] at e
          cases ar with
          | io _ ar =>
            cases es : ρ[j]? with
            | none => rw [es] at e; cases e
            | some s =>
              cases er : arSl ρ as with
              | none => rw [es, er] at e; cases s <;> cases e
              | some z =>
                obtain ⟨ss, o⟩ := z
                rw [es, er] at e
                cases s with
                | unb => cases e
                | own t =>
                  cases o with
                  | some _ => simp at e
                  | none => simp at e; obtain ⟨_, _, e3⟩ := e; subst e3; exact ⟨t, es⟩
                | val d =>
                  cases o with
                  | none => simp at e
                  | some q =>
                    obtain ⟨q1, q2⟩ := q
                    simp at e
                    obtain ⟨e1, e2, e3⟩ := e
                    subst e3
                    first | exact ih _ ar er | (apply ih <;> assumption)
    obtain ⟨t0, e0⟩ := hown
    obtain ⟨ov, f1, f2, f3, h1, h2, h3, h4⟩ := r.slots.at e0
    cases h3 with
    | own ow =>
      rename_i v0
      subst h2
      obtain ⟨rfl, k1, k2, k3⟩ := arSl_io r.slots e0 h1 ow ar e
      have nf2 : f2.Nodup := by
        have := (List.nodup_append.mp n1).2.1
        exact (List.nodup_append.mp this).1
      refine ⟨f2, k1, nf2, fun H' fin ft ρ' q b => ?_⟩
      simp only [backAr] at b
      obtain ⟨s, b1, rfl⟩ := Option.map_eq_some_iff.mp b
      exact back_io r h1 h4 q k3 b1
end
end Eg
set_option Elab.async false
set_option linter.all false
set_option maxRecDepth 100000
set_option maxHeartbeats 4000000
/-! the engine: calls, attributes, methods -/
namespace Eg
open PySem PySem.Spec PyProof.Rows L2

/-- a def of the text: its index, its place -/
structure FnAt (W : Wd) (X : Cx) (F : Nat → Env → OutF) (f : Nat) (fa : Addr) : Prop where
  ok : ∃ (k : Nat) (fd : FuncData) (ps : List Str), FnE W X.prog X.w X.mg X.base k fa fd ps (F f) ∧ Room (k + 1) X.A ∧ Binds X.K fd ps []
  kp : PySem.W.keepIn X.K (.ref fa) = true

section
variable {W : Wd} {Wx : WX} {X : Cx} {pos p : Pos}
theorem inv_env0 {pins : List (Addr × Obj)} {σ : L2.St} {H : Hp} {s : Shared} (hK : X.K = W.K) (I : Inv X pins σ H s) : Env0 X.prog X.w W.K X.mg X.base X.A X.stack s H := hK ▸ I.env0
theorem run_call {pins : List (Addr × Obj)} {σ : L2.St} {H : Hp} {s : Shared} {Q : VK} {C : Fx} {ρ : Env} {as : List Ar} {vs : List V} {us : List Value} {F : Nat → Env → OutF} {f : Nat} {fa : Addr} (g : GX W Wx X) (A : FnAt W X F f fa) (I : Inv X pins σ H s) (r : Vals vs us)
    (rel : RelA W C ρ σ H as vs) (q : wE W C Wx (callF F f as ρ) σ H Q) : wpAny (model X.prog X.w) X.A (call (.ref fa) us) (EP X pins σ Q) X.xe s := by
  obtain ⟨k, fd, ps, FE, hr, hb⟩ := A.ok
  unfold callF at q
  cases ea : arSl ρ as with
  | none => rw [ea] at q; exact q.elim
  | some z =>
    obtain ⟨args, o⟩ := z
    rw [ea] at q
    simp only at q
    obtain ⟨In, sl, nd, way⟩ := call_way rel ea
    have tabs : LamX.Tabs W.T H := let ⟨_, _, _, h⟩ := rel; h.tabs
    have hlen : args.length = us.length := by have := sl.length; rw [this, List.length_map]; exact r.length
    have nb : F f args ≠ .bad := fun z => by rw [z] at q; exact q.elim
    have hl : (us ++ []).length = ps.length := by rw [List.append_nil, ← hlen]; exact FE.len _ nb
    have hq : wF W vs H In (F f args) Q (fun cls dx H' => Wx cls dx σ H') := by
      cases ef : F f args with
      | bad => exact absurd ef nb
      | ret t fin =>
        rw [ef] at q
        simp only at q
        intro v H' ft ow pc
        cases eb : backAr ρ fin o with
        | none => rw [eb] at q; exact q.elim
        | some ρ' =>
          rw [eb] at q
          obtain ⟨fp', rp⟩ := way H' fin ft ρ' pc eb
          exact q v H' pc.ext ⟨fp', ft, ow, rp⟩
      | exc d fin =>
        rw [ef] at q
        simp only at q
        intro cls dx H' rx pc
        cases eb : backAr ρ fin o with
        | none => rw [eb] at q; exact q.elim
        | some ρ' =>
          rw [eb] at q
          obtain ⟨fp', rp⟩ := way H' fin [] ρ' pc eb
          exact q cls dx H' pc.ext (rx.to fun a z => let ⟨_, _, _, rr⟩ := rel; rr.fresh z) ⟨fp', rp⟩
    have hbb := hb s us I.kIn hl
    rw [List.append_nil] at hbb
    refine wpAny_call (codeAny_mono (FE.run X.A X.stack s H ⟨us, []⟩ us vs args In Q _ (hr.mono (Nat.le_succ _)) g.hg (inv_env0 g.hK I) hbb r sl nd tabs hq) fun rr s' hq' => ?_)
    cases rr with
    | error e => exact g.tk e s' (XE.of_call I (fun _ _ _ h => h) hq')
    | ok fl =>
      cases fl with
      | ret u => exact I.after hq'
      | next => exact False.elim hq'
      | brk => exact False.elim hq'
      | cont => exact False.elim hq'
variable {es : List Expr} {eas : Env → Out (List Ar)}
theorem as_go {C : Fx} {ρ : Env} {σ : L2.St} {H : Hp} {Q : VK} {k : List Ar → Env → Out T} (q : wE W C Wx ((eas ρ).bind k) σ H Q) : wAs W C Wx (eas ρ) σ H (fun vs H1 => ∃ as ρ1, RelA W C ρ1 σ H1 as vs ∧ wE W C Wx (k as ρ1) σ H1 Q) := by
  cases eo : eas ρ with
  | bad => simp only [eo, Out.bind] at q; exact q.elim
  | exc d ρ1 => simp only [eo, Out.bind] at q; exact q
  | ok as ρ1 =>
    simp only [eo, Out.bind] at q
    exact fun vs H' e' ra => ⟨as, ρ1, ra, wE.mono e' q⟩
/-- f(..) of the text -/
theorem sb_call {x : Str} {e : Expr} {F : Nat → Env → OutF} {f : Nat} {fa : Addr} (g : GX W Wx X) (A : FnAt W X F f fa) (hg : Gl X x) (hm : X.mg x = some (.ref fa)) (hdb : (x == ("__debug__" : Str)) = false) (hs : ((e :: es).all fun e => !isStar e) = true) (ha : PA X (e :: es) (tAs W Wx eas)) :
    PE X (.Call (.Name x p) (e :: es) [] pos) (tE W Wx fun ρ => (eas ρ).bind fun as ρ => callF F f as ρ) := by
  refine ⟨fun pins s σ H Q I ⟨C, ρ, rel, q⟩ => ?_⟩
  refine wpAny_Call_Name_kw (ld_glob I hg hm ?_ hdb)
  simp only [List.all_cons, Bool.and_eq_true, Bool.not_eq_true'] at hs
  refine PySem.W.callWith_K (h₀ := X.base) I.ok.mod.kin A.kp (thn (ha.run pos pins s σ H _ I ⟨C, ρ, rel, as_go q⟩) fun us s1 ⟨vs, H1, I1, r, as, ρ1, ra, q1⟩ => ⟨I1.kIn, ?_⟩) (plain_star (isStar_ne hs.1)) (nostar_any hs.2)
  exact run_call g A I1 r ra q1
theorem relA_nil {C : Fx} {ρ : Env} {σ : L2.St} {H : Hp} (h : Rel W C ρ σ H) : RelA W C ρ σ H [] [] := let ⟨fp, h⟩ := h; ⟨fp, [], .nil, h⟩
theorem sb_call0 {x : Str} {F : Nat → Env → OutF} {f : Nat} {fa : Addr} (g : GX W Wx X) (A : FnAt W X F f fa) (hg : Gl X x) (hm : X.mg x = some (.ref fa)) (hdb : (x == ("__debug__" : Str)) = false) :
    PE X (.Call (.Name x p) [] [] pos) (tE W Wx fun ρ => callF F f [] ρ) := by
  refine ⟨fun pins s σ H Q I ⟨C, ρ, rel, q⟩ => ?_⟩
  refine wpAny_Call_Name_kw (ld_glob I hg hm ?_ hdb)
  exact PySem.W.callWith_K0 I.kIn A.kp (run_call (us := []) g A I .nil (relA_nil rel) q)

/-! ### attributes -/
variable {a : Expr} {ea : Env → Out T}
/-- what the classes' names come to -/
structure FldOk (W : Wd) (S : Stat) (nm : Nat → Str) : Prop where
  fld : ∀ c n k, S.fld c n = some k → Cls W.K (W.cA c) ∧ NoAttr W.K (W.cA c) (nm n) ∧ (W.fl c)[k]? = some (nm n)
  nd : ∀ c, (W.fl c).Nodup
  ln : ∀ c, (W.fl c).length < 1000
  val : nm 0 = ("value" : Str)
  exv : ∀ c, S.isX c = true → c < S.nC → PySem.W.findIn W.K (.ref (W.cA c)) "value" = some none ∧ PySem.W.hasDictIn W.K (W.cA c) = true
theorem zip_look {f : Str} {v : V} : ∀ {fl : List Str} {vs : List V} {k : Nat}, fl.Nodup → fl[k]? = some f → vs[k]? = some v → (fl.zip vs).lookup f = some v
  | [], _, _, _, h, _ => by simp at h
  | _ :: _, [], _, _, _, h => by simp at h
  | g :: fl, w :: vs, 0, _, h1, h2 => by simp at h1 h2; subst h1 h2; simp [List.lookup]
  | g :: fl, w :: vs, k + 1, nd, h1, h2 => by
    have hne : f ≠ g := fun z => (List.nodup_cons.mp nd).1 (z ▸ List.mem_of_getElem? (by simpa using h1))
    have hb : (f == g) = false := beq_eq_false_iff_ne.mpr hne
    simp only [List.zip_cons_cons, List.lookup, hb]
    exact zip_look (List.nodup_cons.mp nd).2 (by simpa using h1) (by simpa using h2)
/-- an instance's field, known or not -/
theorem ins_fld {pins : List (Addr × Obj)} {σ : L2.St} {H : Hp} {s : Shared} {x C dx : Addr} {fs : List (Str × V)} {f : Str} {v : V} {b : Bool} {Q : Value → Shared → Prop} (I : Inv X pins σ H s) (h : ObjOk X.prog X.w H s.heap x (.ins C dx fs)) (c : Cls X.K C) (n : NoAttr X.K C f) (l : fs.lookup f = some v)
    (q : ∀ u s', Inv X pins σ H s' → RelV v u → Q u s') : wpAny (model X.prog X.w) X.A (getAttr (.ref x) f b) Q X.xe s := by
  obtain ⟨d, z, ne, ob, mA, ns, r, wi⟩ := h
  obtain ⟨u, hu, ru⟩ := RelO.some_of (v := v) (o := mA f) (by rw [← l]; exact r f)
  exact get_map I.kIn ⟨ob, ns, ne⟩ (c.get f) c.hd n hu (handed_of ru) (q u _ (I.tok _) ru)
/-- an exception's value -/
theorem exc_fld {pins : List (Addr × Obj)} {σ : L2.St} {H : Hp} {s : Shared} {x C : Addr} {v : V} {b : Bool} {Q : Value → Shared → Prop} (I : Inv X pins σ H s) (h : ExF H x C [("value", v)]) (c : ClsE X.K C) (hd : PySem.W.hasDictIn X.K C = true) (n : PySem.W.findIn X.K (.ref C) "value" = some none)
    (q : ∀ u s', Inv X pins σ H s' → RelV v u → Q u s') : wpAny (model X.prog X.w) X.A (getAttr (.ref x) "value" b) Q X.xe s := by
  obtain ⟨oe, dx, ⟨o, h1⟩, h2, h3, ⟨w, h4⟩, ⟨o2, h5⟩⟩ := h
  obtain ⟨_, q1, _⟩ := I.hok x _ h1
  obtain ⟨q2, mA, hn, rel⟩ := I.hok dx _ h5
  obtain ⟨od, hod, hl⟩ := lookIn_ns hn
  have no : PySem.W.notCls oe = true := by unfold PySem.W.notCls; rw [h4]
  have J : PySem.W.InstAt s.heap x oe C (some od) := ⟨q1, h2, no, by rw [h3]; exact hod⟩
  have r := rel "value"
  have e : List.lookup ("value" : Str) [(("value" : Str), v)] = some v := by simp [List.lookup]
  rw [e] at r
  obtain ⟨u, hu, ru⟩ := RelO.some_of r
  exact PySem.PX.exc_get I.kIn J c.hga c.hgt c.hsub (PySem.W.findObj_own hd n rfl (by rw [hl, hu])) (handed_of ru) (q u _ (I.tok _) ru)
theorem reps_own {H : Hp} {ts : List T} {vs : List V} {fp : List Addr} {k : Nat} {d : D} : Owns W H ts vs fp → ts[k]? = some (.fr d) → ∃ v, vs[k]? = some v ∧ Rep W H d v := by
  intro h
  induction k generalizing ts vs fp with
  | zero =>
    intro e
    cases h with
    | nil => simp at e
    | cons h r => simp at e; subst e; exact ⟨_, rfl, (own_fr h).1⟩
  | succ k ih =>
    intro e
    cases h with
    | nil => simp at e
    | cons h r =>
      obtain ⟨v, h1, h2⟩ := ih r (by simpa using e)
      exact ⟨v, by simpa using h1, h2⟩
/-- e.f, by a property: the getter is called -/
theorem run_prop {pins : List (Addr × Obj)} {σ : L2.St} {H : Hp} {s : Shared} {Q : VK} {C : Fx} {ρ : Env} {F : Nat → Env → OutF} {f c : Nat} {pa ga x dx : Addr} {nm : Str} {fs : List (Str × V)} {ds : List D} {t : T} {fin : Env} {b : Bool} (g : GX W Wx X) (A : FnAt W X F f ga) (I : Inv X pins σ H s) (rel : Rel W C ρ σ H)
    (h : ObjOk X.prog X.w H s.heap x (.ins (W.cA c) dx fs)) (rp : Rep W H (.ins c ds) (.ref x)) (cl : Cls X.K (W.cA c)) (hp : PropOf X.K (W.cA c) nm pa ga) (ef : F f [.val (.ins c ds)] = .ret t fin) (q : ∀ v H', Ext H H' → RelT W C ρ σ H' t v → Q v H') :
    wpAny (model X.prog X.w) X.A (getAttr (.ref x) nm b) (EP X pins σ Q) X.xe s := by
  obtain ⟨k, fd, ps, FE, hr, hb⟩ := A.ok
  obtain ⟨mA, O⟩ := insM h
  obtain ⟨od, J, _⟩ := O.look
  obtain ⟨rest, hrec⟩ := hp.rec_
  have I1 := I.tok (s.toks + 1)
  have hl0 : [Sl.val (D.ins c ds)].length = ps.length := FE.len _ (by rw [ef]; exact fun z => nomatch z)
  have hl : ([Value.ref x] ++ []).length = ps.length := hl0
  have hc : (PySem.W.clsIn X.K (W.cA c)).isSome = true := by
    obtain ⟨cd, hc, _⟩ := PySem.W.any_some cl.hd
    rw [hc]; rfl
  obtain ⟨fp, rl⟩ := rel
  have hq : wF W [.ref x] H [] (F f [.val (.ins c ds)]) Q (fun _ _ _ => False) := by
    rw [ef]
    exact fun v H' ft ow pc => q v H' pc.ext ⟨fp, ft, ow, back_plain rl pc⟩
  have sl : SlRs W H [.val (.ins c ds)] ([V.ref x].map some) [] := .cons (.val rp) .nil
  have hbb := hb { s with toks := s.toks + 1 } [.ref x] I1.kIn hl
  rw [List.append_nil] at hbb
  refine PySem.W.get_bind I.kIn J (PySem.W.plainGet_of (cl.get nm)).1 (PySem.W.findObj_data hc hp.at_ hp.get hp.tak) (PySem.W.plainGet_of (cl.get nm)).2 (wpAny_call (PySem.W.prop_get (s := { s with toks := s.toks + 1 }) I.kIn hrec ?_))
  refine codeAny_mono (FE.run X.A.in1 X.stack { s with toks := s.toks + 1 } H ⟨[.ref x], []⟩ [.ref x] [.ref x] _ [] Q _ hr.in1 g.hg (inv_env0 g.hK I1).in1 hbb (.cons rfl .nil) sl (by simp) rl.tabs hq) fun r s' hq' => ?_
  cases r with
  | error er =>
    obtain ⟨_, _, _, _, _, _, _, _, _, _, _, _, z⟩ := hq'
    exact z.elim
  | ok fl =>
    cases fl with
    | ret u =>
      obtain ⟨v, H', I3, rv, q3⟩ := I1.after hq'
      show wpAny _ _ (handedOut u) _ _ _
      rw [PySem.W.handedOut_of (handed_of rv)]
      exact wpAny_pure ⟨v, H', I3, rv, q3⟩
    | next => exact False.elim hq'
    | brk => exact False.elim hq'
    | cont => exact False.elim hq'
structure PropAt (W : Wd) (X : Cx) (S : Stat) (F : Nat → Env → OutF) (nm : Nat → Str) : Prop where
  at_ : ∀ c n f, S.prop c n = some f → ∃ pa ga, PropOf X.K (W.cA c) (nm n) pa ga ∧ Cls X.K (W.cA c) ∧ FnAt W X F f ga
/-- e.f -/
theorem sb_fld {S : Stat} {F : Nat → Env → OutF} {nm : Nat → Str} {n : Nat} (g : GX W Wx X) (ok : WOk W S) (fo : FldOk W S nm) (pa : PropAt W X S F nm) (ha : PE X a (tBo W Wx ea)) (hb : attributeBase a (nm n) X.env (eval a X.env) = eval a X.env) :
    PE X (.Attribute a (nm n) pos) (tE W Wx fun ρ => (ea ρ).bind fun x ρ => fldT S F x n ρ) := by
  refine ⟨fun pins s σ H Q I ⟨C, ρ, rel, q⟩ => ?_⟩
  have go : wB W C Wx (ea ρ) σ H (fun v H1 => ∃ t ρ1, Rel W C ρ1 σ H1 ∧ (∃ fp, Own W H1 t v fp) ∧ wE W C Wx (fldT S F t n ρ1) σ H1 Q) :=
    wB_bind wE_x wE_b wE_m q fun t ρ1 v H1 e1 r1 p1 q1 => ⟨t, ρ1, r1, p1, q1⟩
  refine attr_of hb (thn (ha.run pins s σ H _ I ⟨C, ρ, rel, go⟩) fun u s1 ⟨v, H1, I1, rv, t, ρ1, r1, ⟨fp, ow⟩, q1⟩ => ?_)
  have fin : ∀ {d : D} {y : V} {u' : Value} {s2 : Shared}, Rep W H1 d y → wE W C Wx (.ok (.fr d) ρ1) σ H1 Q → Inv X pins σ H1 s2 → RelV y u' → EP X pins σ Q u' s2 := fun {d y u' s2} rp qq I2 ru => ⟨y, H1, I2, ru, qq y H1 (Ext.refl _) (r1.relT rp)⟩
  have insk : ∀ {c k : Nat} {dx x : Addr} {vs : List V} {d : D} {y : V}, S.fld c n = some k → ObjOk X.prog X.w H1 s1.heap x (.ins (W.cA c) dx ((W.fl c).zip vs)) → vs[k]? = some y → Rep W H1 d y → wE W C Wx (.ok (.fr d) ρ1) σ H1 Q → wpAny (model X.prog X.w) X.A (getAttr (.ref x) (nm n) true) (EP X pins σ Q) X.xe s1 := fun {c k dx x vs d y} hf ob hv rp qq => by
    obtain ⟨cl, na, hk⟩ := fo.fld c n k hf
    exact ins_fld I1 ob (g.hK ▸ cl) (g.hK ▸ na) (zip_look (fo.nd c) hk hv) fun u' s2 I2 ru => fin rp qq I2 ru
  cases ow with
  | fr rp =>
    cases rp with
    | ins h rs l =>
      rename_i c ds x dx vs
      obtain ⟨o, h'⟩ := h
      cases (show u = Value.ref x from rv)
      have ob := (I1.hok x _ h').2
      simp only [fldT] at q1
      cases hf : S.fld c n with
      | some k =>
        rw [hf] at q1
        simp only at q1
        cases hd : ds[k]? with
        | none => rw [hd] at q1; exact q1.elim
        | some d =>
          rw [hd] at q1
          obtain ⟨y, hv, rp⟩ := rs.get hd
          exact insk hf ob hv rp q1
      | none =>
        rw [hf] at q1
        simp only [propT] at q1
        cases hp : S.prop c n with
        | none => rw [hp] at q1; exact q1.elim
        | some f =>
          rw [hp] at q1
          simp only at q1
          cases ef : F f [.val (.ins c ds)] with
          | bad => rw [ef] at q1; exact q1.elim
          | exc d fin => rw [ef] at q1; exact q1.elim
          | ret t fin =>
            rw [ef] at q1
            obtain ⟨pa', ga, h1, h2, h3⟩ := pa.at_ c n f hp
            exact run_prop g h3 I1 r1 ob (.ins ⟨o, h'⟩ rs l) h2 h1 ef q1
    | exc h rp =>
      rename_i c d x y
      cases (show u = Value.ref x from rv)
      simp only [fldT] at q1
      split at q1
      · rename_i hc
        simp only [Bool.and_eq_true, decide_eq_true_eq] at hc
        obtain ⟨⟨hn, hx⟩, hcc⟩ := hc
        subst hn
        rw [fo.val]
        obtain ⟨z1, z2⟩ := fo.exv c hx hcc
        exact exc_fld I1 h (g.hK ▸ ok.clsE c hcc hx) (g.hK ▸ z2) (g.hK ▸ z1) fun u' s2 I2 ru => fin rp q1 I2 ru
      · exact q1.elim
    | _ => exact q1.elim
  | ins h rs l =>
    rename_i c ts x dx vs fp
    cases (show u = Value.ref x from rv)
    simp only [fldT] at q1
    cases hf : S.fld c n with
    | none => rw [hf] at q1; exact q1.elim
    | some k =>
      rw [hf] at q1
      simp only at q1
      split at q1
      · rename_i d hd
        obtain ⟨y, hv, rp⟩ := reps_own rs hd
        exact insk hf (I1.hok x _ h) hv rp q1
      · exact q1.elim
  | lst _ _ => exact q1.elim
  | dic _ _ _ => exact q1.elim
end
end Eg
set_option Elab.async false
set_option linter.all false
set_option maxRecDepth 100000
set_option maxHeartbeats 4000000
/-! the engine: what is walked; targets; list comprehensions -/
namespace Eg
open PySem PySem.Spec PyProof.Rows L2

section
variable {W : Wd} {Wx : WX} {X : Cx} {pos p p2 tpos : Pos}
/-- an iterator that yields these data, whatever comes -/
structure Walk (W : Wd) (K : PySem.W.Frag) (H1 : Hp) (J : L2.It) (xs : List D) : Prop where
  go : ∀ i H, Ext H1 H → i < xs.length → J.go i H
  stop : ∀ H, Ext H1 H → J.stop xs.length H
  yld : ∀ i H v H' d, Ext H1 H → xs[i]? = some d → J.yld i H v H' → ResT W H (.fr d) v H'
def wI (W : Wd) (C : Fx) (Wx : WX) (K : PySem.W.Frag) (o : Out (List D)) (σ : L2.St) (H : Hp) (R : L2.It → Hp → Prop) : Prop := match o with
  | .ok xs ρ => ∀ J H', Ext H H' → Rel W C ρ σ H' → Walk W K H' J xs → R J H'
  | .exc d ρ => xWay W C Wx d ρ σ H
  | .bad => False
def tIt (W : Wd) (Wx : WX) (K : PySem.W.Frag) (ev : Env → Out (List D)) : TI := fun σ H R => ∃ C ρ, Rel W C ρ σ H ∧ wI W C Wx K (ev ρ) σ H R
theorem wI.mono {C : Fx} {K : PySem.W.Frag} {σ : L2.St} {H H1 : Hp} {o : Out (List D)} {R : L2.It → Hp → Prop} (e : Ext H H1) (h : wI W C Wx K o σ H R) : wI W C Wx K o σ H1 R := by
  cases o with
  | ok t ρ => exact fun J H' e' => h J H' (e.trans e')
  | exc d ρ => exact xWay.mono e h
  | bad => exact h
theorem _root_.L2.PI.mono {tg iter : Expr} {t t' : TI} (h : PI X tg iter t) (k : ∀ σ H R, t' σ H R → t σ H R) : PI X tg iter t' := ⟨fun pins s σ H R I q => h.run pins s σ H R I (k σ H R q)⟩
theorem walk_lst {K : PySem.W.Frag} {H1 : Hp} {a : Addr} {vs : List V} {xs : List D} (h : SqF K H1 a vs) (r : Reps W H1 xs vs) : Walk W K H1 (Itl K a) xs where
  go := fun i H e hi => by
    have hv : i < vs.length := by rw [← r.length]; exact hi
    exact ⟨vs, vs[i], (SqF.ext e h).sql, by simp [hv]⟩
  stop := fun H e => ⟨vs, (SqF.ext e h).sql, by rw [r.length]; exact Nat.le_refl _⟩
  yld := fun i H v H' d e hd y => by
    obtain ⟨rfl, y⟩ := y
    obtain ⟨w, h1, h2⟩ := (r.ext e).get hd
    have := y vs (SqF.ext e h).sql
    rw [h1] at this; cases this
    exact .inl ⟨rfl, d, rfl, h2⟩
theorem walk_tup {K : PySem.W.Frag} {H1 : Hp} {a : Addr} {vs : List V} {xs : List D} (h : SqT K H1 a vs) (r : Reps W H1 xs vs) : Walk W K H1 (Itt K a) xs where
  go := fun i H e hi => by
    have hv : i < vs.length := by rw [← r.length]; exact hi
    exact ⟨vs, vs[i], SqT.ext e h, by simp [hv]⟩
  stop := fun H e => ⟨vs, SqT.ext e h, by rw [r.length]; exact Nat.le_refl _⟩
  yld := fun i H v H' d e hd y => by
    obtain ⟨rfl, y⟩ := y
    obtain ⟨w, h1, h2⟩ := (r.ext e).get hd
    have := y vs (SqT.ext e h)
    rw [h1] at this; cases this
    exact .inl ⟨rfl, d, rfl, h2⟩
theorem walk_rng {K : PySem.W.Frag} {H1 : Hp} {lo hi : Int} : Walk W K H1 (Itr lo (hi - lo).toNat) (rangeD lo hi) where
  go := fun i H e h => by
    have h' : i < (hi - lo).toNat := by simpa only [rangeD, List.length_map, List.length_range] using h
    exact h'
  stop := fun H e => by
    show (hi - lo).toNat ≤ _
    simp only [rangeD, List.length_map, List.length_range]
    exact Nat.le_refl _
  yld := fun i H v H' d e hd y => by
    obtain ⟨rfl, rfl⟩ := y
    have hd' : D.int (lo + (i : Int)) = d := by
      simp only [rangeD, List.getElem?_map] at hd
      obtain ⟨j, h1, h2⟩ := Option.map_eq_some_iff.mp hd
      have := List.getElem?_eq_some_iff.mp h1
      obtain ⟨h3, h4⟩ := this
      rw [List.getElem_range] at h4
      rw [h4, h2]
    subst hd'
    exact .inl ⟨rfl, _, rfl, .int _⟩
theorem walk_str {K : PySem.W.Frag} {H1 : Hp} {x : Str} : Walk W K H1 (Its x) (strD x) where
  go := fun i H e h => by simpa [strD, Its] using h
  stop := fun H e => by simp [strD, Its]
  yld := fun i H v H' d e hd y => by
    obtain ⟨rfl, c, hc, rfl⟩ := y
    have : D.str ⟨#[c]⟩ = d := by
      simp only [strD, List.getElem?_map] at hd
      obtain ⟨j, h1, h2⟩ := Option.map_eq_some_iff.mp hd
      have h3 : x.cps.toList[i]? = some c := by simpa using hc
      rw [h3] at h1; cases h1; exact h2
    subst this
    exact .inl ⟨rfl, _, rfl, .str _⟩
theorem enumD_at {xs : List D} {i : Nat} {d : D} (h : (enumD xs)[i]? = some d) : ∃ x, xs[i]? = some x ∧ d = .pr [.int (i : Nat), x] := by
  unfold enumD at h
  rw [List.getElem?_map] at h
  obtain ⟨q, h1, h2⟩ := Option.map_eq_some_iff.mp h
  rw [List.getElem?_zipIdx] at h1
  obtain ⟨x, h3, h4⟩ := Option.map_eq_some_iff.mp h1
  subst h4
  exact ⟨x, h3, by rw [← h2]; simp⟩
theorem walk_enum {K : PySem.W.Frag} {H1 : Hp} {a : Addr} {vs : List V} {xs : List D} (h : SqF K H1 a vs) (r : Reps W H1 xs vs) : Walk W K H1 (Ite K a) (enumD xs) where
  go := fun i H e hi => by
    have hi' : i < xs.length := by simpa [enumD] using hi
    have hv : i < vs.length := by rw [← r.length]; exact hi'
    exact ⟨vs, vs[i], (SqF.ext e h).sql, by simp [hv]⟩
  stop := fun H e => ⟨vs, (SqF.ext e h).sql, by simp [enumD, r.length]⟩
  yld := fun i H v H' d e hd y => by
    obtain ⟨T, x, rfl, hT, rfl, y⟩ := y
    obtain ⟨z, h1, rfl⟩ := enumD_at hd
    obtain ⟨w, h2, h3⟩ := (r.ext e).get h1
    have := y vs (SqF.ext e h).sql
    rw [h2] at this; cases this
    exact ResT.newPr hT (.cons (.int _) (.cons h3 .nil))
theorem walk_enumT {K : PySem.W.Frag} {H1 : Hp} {a : Addr} {vs : List V} {xs : List D} (h : SqT K H1 a vs) (r : Reps W H1 xs vs) : Walk W K H1 (Et.IteT K a) (enumD xs) where
  go := fun i H e hi => by
    have hi' : i < xs.length := by simpa [enumD] using hi
    have hv : i < vs.length := by rw [← r.length]; exact hi'
    exact ⟨vs, vs[i], SqT.ext e h, by simp [hv]⟩
  stop := fun H e => ⟨vs, SqT.ext e h, by simp [enumD, r.length]⟩
  yld := fun i H v H' d e hd y => by
    obtain ⟨T, x, rfl, hT, rfl, y⟩ := y
    obtain ⟨z, h1, rfl⟩ := enumD_at hd
    obtain ⟨w, h2, h3⟩ := (r.ext e).get h1
    have := y vs (SqT.ext e h)
    rw [h2] at this; cases this
    exact ResT.newPr hT (.cons (.int _) (.cons h3 .nil))
theorem walk_zipT {K : PySem.W.Frag} {H1 : Hp} {a b : Addr} {vs ws : List V} {xs ys : List D} (h : SqT K H1 a vs) (r : Reps W H1 xs vs) (h' : SqT K H1 b ws) (r' : Reps W H1 ys ws) : Walk W K H1 (RZ.ItzT K a b) (List.zipWith (fun p q => .pr [p, q]) xs ys) where
  go := fun i H e hi => by
    rw [List.length_zipWith] at hi
    have hv : i < vs.length := by rw [← r.length]; omega
    have hw : i < ws.length := by rw [← r'.length]; omega
    exact ⟨vs, ws, vs[i], ws[i], SqT.ext e h, SqT.ext e h', by simp [hv], by simp [hw]⟩
  stop := fun H e => ⟨vs, ws, SqT.ext e h, SqT.ext e h', by rw [List.length_zipWith, ← r.length, ← r'.length]; omega⟩
  yld := fun i H v H' d e hd y => by
    obtain ⟨T, x, z, rfl, hT, rfl, y1, y2⟩ := y
    rw [List.getElem?_zipWith] at hd
    cases hx : xs[i]? with
    | none => rw [hx] at hd; simp at hd
    | some p =>
      cases hy : ys[i]? with
      | none => rw [hx, hy] at hd; simp at hd
      | some q =>
        rw [hx, hy] at hd
        simp at hd; subst hd
        obtain ⟨w, h2, h3⟩ := (r.ext e).get hx
        obtain ⟨w', h4, h5⟩ := (r'.ext e).get hy
        have e1 := y1 vs (SqT.ext e h)
        have e2 := y2 ws (SqT.ext e h')
        rw [h2] at e1; cases e1
        rw [h4] at e2; cases e2
        exact ResT.newPr hT (.cons h3 (.cons h5 .nil))
theorem walk_zip {K : PySem.W.Frag} {H1 : Hp} {a b : Addr} {vs ws : List V} {xs ys : List D} (h : SqF K H1 a vs) (r : Reps W H1 xs vs) (h' : SqF K H1 b ws) (r' : Reps W H1 ys ws) : Walk W K H1 (Itz K a b) (List.zipWith (fun p q => .pr [p, q]) xs ys) where
  go := fun i H e hi => by
    rw [List.length_zipWith] at hi
    have hv : i < vs.length := by rw [← r.length]; omega
    have hw : i < ws.length := by rw [← r'.length]; omega
    exact ⟨vs, ws, vs[i], ws[i], (SqF.ext e h).sql, (SqF.ext e h').sql, by simp [hv], by simp [hw]⟩
  stop := fun H e => ⟨vs, ws, (SqF.ext e h).sql, (SqF.ext e h').sql, by rw [List.length_zipWith, ← r.length, ← r'.length]; omega⟩
  yld := fun i H v H' d e hd y => by
    obtain ⟨T, x, z, rfl, hT, rfl, y1, y2⟩ := y
    rw [List.getElem?_zipWith] at hd
    cases hx : xs[i]? with
    | none => rw [hx] at hd; simp at hd
    | some p =>
      cases hy : ys[i]? with
      | none => rw [hx, hy] at hd; simp at hd
      | some q =>
        rw [hx, hy] at hd
        simp at hd; subst hd
        obtain ⟨w, h2, h3⟩ := (r.ext e).get hx
        obtain ⟨w', h4, h5⟩ := (r'.ext e).get hy
        have e1 := y1 vs (SqF.ext e h).sql
        have e2 := y2 ws (SqF.ext e h').sql
        rw [h2] at e1; cases e1
        rw [h4] at e2; cases e2
        exact ResT.newPr hT (.cons h3 (.cons h5 .nil))
theorem Rep.lstF {H : Hp} {ds : List D} {v : V} (h : Rep W H (.lst ds) v) : ∃ a vs, v = .ref a ∧ SqF W.K H a vs ∧ Reps W H ds vs := by
  cases h with
  | lst h r => exact ⟨_, _, rfl, h, r⟩

theorem Rep.tupF {H : Hp} {ds : List D} {v : V} (h : Rep W H (.tup ds) v) : ∃ a vs, v = .ref a ∧ SqT W.K H a vs ∧ Reps W H ds vs := by
  cases h with
  | tup h r => exact ⟨_, _, rfl, h.sqt, r⟩

/-! ### the sources -/
variable {tg a b : Expr} {ea eb : Env → Out D}
def wI_x {K : PySem.W.Frag} {C : Fx} {σ : L2.St} {R : L2.It → Hp → Prop} : ∀ d ρ H, wI W C Wx K (.exc d ρ) σ H R → xWay W C Wx d ρ σ H := fun _ _ _ h => h
def wI_b {K : PySem.W.Frag} {C : Fx} {σ : L2.St} {R : L2.It → Hp → Prop} : ∀ H, ¬ wI W C Wx K .bad σ H R := fun _ h => h
def wI_m {K : PySem.W.Frag} {C : Fx} {σ : L2.St} {R : L2.It → Hp → Prop} : ∀ o H H1, Ext H H1 → wI W C Wx K o σ H R → wI W C Wx K o σ H1 R := fun _ _ _ e h => wI.mono e h
/-- any value that is walked -/
theorem si_seq (g : GX W Wx X) (ha : PE X a (tD W Wx ea)) : PI X tg a (tIt W Wx X.K fun ρ => (ea ρ).bind fun x ρ => Out.of ρ (seqD x)) := by
  refine ⟨fun pins s σ H R I ⟨C, ρ, rel, q⟩ => ?_⟩
  cases eo : ea ρ with
  | bad => simp only [eo, Out.bind] at q; exact q.elim
  | exc d ρ1 =>
    simp only [eo, Out.bind] at q
    exact (pi_list ha).run pins s σ H R I ⟨C, ρ, rel, by rw [eo]; exact q⟩
  | ok x ρ1 =>
    simp only [eo, Out.bind] at q
    cases x with
    | lst xs =>
      refine (pi_list ha).run pins s σ H R I ⟨C, ρ, rel, ?_⟩
      rw [eo]
      intro v H1 e1 r1 p1
      obtain ⟨a', vs, rfl, h, r⟩ := p1.lstF
      exact ⟨a', rfl, ⟨vs, g.hK ▸ h.sql⟩, q _ _ e1 r1 (walk_lst (g.hK ▸ h) r)⟩
    | tup xs =>
      refine (pi_tup ha).run pins s σ H R I ⟨C, ρ, rel, ?_⟩
      rw [eo]
      intro v H1 e1 r1 p1
      obtain ⟨a', vs, rfl, h, r⟩ := (WRep.rep p1).tupI
      exact ⟨a', rfl, ⟨vs, g.hK ▸ h⟩, q _ _ e1 r1 (walk_tup (g.hK ▸ h) r)⟩
    | str z =>
      refine (pi_str ha).run pins s σ H R I ⟨C, ρ, rel, ?_⟩
      rw [eo]
      intro v H1 e1 r1 p1
      cases p1
      exact ⟨z, rfl, q _ _ e1 r1 walk_str⟩
    | _ => exact q.elim
theorem si_rng1 (hg : Gl X "range") (hm : X.mg "range" = none) (hs : isStar a = false) (ha : PE X a (tD W Wx ea)) :
    PI X tg (.Call (.Name "range" p) [a] [] pos) (tIt W Wx X.K fun ρ => bindI (ea ρ) fun n ρ => if okRange n then .ok (rangeD 0 n) ρ else .bad) := by
  refine (pi_range1 hg hm (pa_cons ha pa_nil (plain_star (isStar_ne hs))) (plain_star (isStar_ne hs))).mono fun σ H R ⟨C, ρ, rel, q⟩ => ⟨C, ρ, rel, ?_⟩
  unfold bindI at q
  refine wD_bind (P := fun o H => wI W C Wx X.K o σ H R) (fun _ _ _ h => h) (fun _ h => h) (fun _ _ _ e h => wI.mono e h) q fun x ρ1 v H1 e1 r1 p1 q1 => ?_
  cases x <;> simp only at q1 <;> try exact q1.elim
  rename_i n
  cases p1
  cases hr : okRange n with
  | false => rw [hr] at q1; exact q1.elim
  | true =>
    rw [hr] at q1
    obtain ⟨h1, h2⟩ := okRange_of hr
    refine ⟨n, rfl, h1, h2, q1 _ _ (Ext.refl _) r1 ?_⟩
    have := walk_rng (W := W) (K := X.K) (H1 := H1) (lo := 0) (hi := n)
    simpa using this
theorem si_rng2 (hg : Gl X "range") (hm : X.mg "range" = none) (hs : isStar a = false) (hs2 : isStar b = false) (ha : PE X a (tD W Wx ea)) (hb : PE X b (tD W Wx eb)) :
    PI X tg (.Call (.Name "range" p) [a, b] [] pos) (tIt W Wx X.K fun ρ => bindI (ea ρ) fun m ρ => bindI (eb ρ) fun n ρ => if okRange m && okRange n then .ok (rangeD m n) ρ else .bad) := by
  refine (pi_range2 hg hm (pa_cons ha (pa_cons hb pa_nil (plain_star (isStar_ne hs2))) (plain_star (isStar_ne hs))) ?_ (plain_star (isStar_ne hs2))).mono fun σ H R ⟨C, ρ, rel, q⟩ => ⟨C, ρ, rel, ?_⟩
  · rw [plain_star (isStar_ne hs), plain_star (isStar_ne hs2)]; rfl
  unfold bindI at q
  refine wD_bind (P := fun o H => wI W C Wx X.K o σ H R) (fun _ _ _ h => h) (fun _ h => h) (fun _ _ _ e h => wI.mono e h) q fun x ρ1 v H1 e1 r1 p1 q1 => ⟨C, ρ1, r1, ?_⟩
  cases x <;> simp only at q1 <;> try exact q1.elim
  rename_i m
  cases p1
  refine wD_bind (P := fun o H => wI W C Wx X.K o σ H R) (fun _ _ _ h => h) (fun _ h => h) (fun _ _ _ e h => wI.mono e h) q1 fun y ρ2 v2 H2 e2 r2 p2 q2 => ?_
  cases y <;> simp only at q2 <;> try exact q2.elim
  rename_i n
  cases p2
  cases hr : (okRange m && okRange n) with
  | false => rw [hr] at q2; exact q2.elim
  | true =>
    rw [hr] at q2
    rw [Bool.and_eq_true] at hr
    obtain ⟨h1, h2⟩ := okRange_of hr.1
    obtain ⟨h3, h4⟩ := okRange_of hr.2
    exact ⟨m, n, rfl, ⟨h1, h2, h3, h4⟩, q2 _ _ (Ext.refl _) r2 walk_rng⟩
theorem si_enum {elts : List Expr} {kk : Nat} (g : GX W Wx X) (hg : Gl X "enumerate") (hm : X.mg "enumerate" = none) (hs : isStar a = false) (ha : PE X a (tD W Wx ea)) :
    PI X (.Tuple elts kk tpos) (.Call (.Name "enumerate" p) [a] [] pos) (tIt W Wx X.K fun ρ => (ea ρ).bind fun x ρ => Out.of ρ (x.items.map enumD)) := by
  refine (Et.pi_enumA hg hm (pa_cons ha pa_nil (plain_star (isStar_ne hs))) (plain_star (isStar_ne hs))).mono fun σ H R ⟨C, ρ, rel, q⟩ => ⟨C, ρ, rel, ?_⟩
  refine wD_bind (P := fun o H => wI W C Wx X.K o σ H R) (fun _ _ _ h => h) (fun _ h => h) (fun _ _ _ e h => wI.mono e h) q fun x ρ1 v H1 e1 r1 p1 q1 => ?_
  cases x with
  | lst xs =>
    obtain ⟨a', vs, rfl, h, r⟩ := p1.lstF
    exact ⟨a', vs, rfl, .inl ⟨g.hK ▸ h.sql, q1 _ _ (Ext.refl _) r1 (walk_enum (g.hK ▸ h) r)⟩⟩
  | tup xs =>
    obtain ⟨a', vs, rfl, h, r⟩ := p1.tupF
    exact ⟨a', vs, rfl, .inr ⟨g.hK ▸ h, q1 _ _ (Ext.refl _) r1 (walk_enumT (g.hK ▸ h) r)⟩⟩
  | _ => exact q1.elim
theorem si_zip {elts : List Expr} {kk : Nat} (g : GX W Wx X) (hg : Gl X "zip") (hm : X.mg "zip" = none) (hs : isStar a = false) (hs2 : isStar b = false) (ha : PE X a (tD W Wx ea)) (hb : PE X b (tD W Wx eb)) :
    PI X (.Tuple elts kk tpos) (.Call (.Name "zip" p) [a, b] [] pos) (tIt W Wx X.K fun ρ => (ea ρ).bind fun x ρ => (eb ρ).bind fun y ρ => match zipD x y with
    | some xs => .ok xs ρ
    | none => .bad) := by
  refine (RZ.pi_zipA hg hm (pa_cons ha (pa_cons hb pa_nil (plain_star (isStar_ne hs2))) (plain_star (isStar_ne hs))) (plain_star (isStar_ne hs)) (nostar_any (by simp [hs2]))).mono fun σ H R ⟨C, ρ, rel, q⟩ => ⟨C, ρ, rel, ?_⟩
  refine wD_bind (P := fun o H => wI W C Wx X.K o σ H R) (fun _ _ _ h => h) (fun _ h => h) (fun _ _ _ e h => wI.mono e h) q fun x ρ1 v H1 e1 r1 p1 q1 => ⟨C, ρ1, r1, ?_⟩
  refine wD_bind (P := fun o H => wI W C Wx X.K o σ H R) (fun _ _ _ h => h) (fun _ h => h) (fun _ _ _ e h => wI.mono e h) q1 fun y ρ2 v2 H2 e2 r2 p2 q2 => ?_
  cases x <;> simp only [zipD] at q2 <;> try exact q2.elim
  · cases y <;> simp only at q2 <;> try exact q2.elim
    obtain ⟨a', vs, rfl, h, r⟩ := p1.tupF
    obtain ⟨b', ws, rfl, h', r'⟩ := p2.tupF
    have hh := SqT.ext e2 h
    exact ⟨a', b', vs, ws, rfl, .inr ⟨g.hK ▸ hh, g.hK ▸ h', q2 _ _ (Ext.refl _) r2 (walk_zipT (g.hK ▸ hh) (r.ext e2) (g.hK ▸ h') r')⟩⟩
  · cases y <;> simp only at q2 <;> try exact q2.elim
    obtain ⟨a', vs, rfl, h, r⟩ := p1.lstF
    obtain ⟨b', ws, rfl, h', r'⟩ := p2.lstF
    have hh := SqF.ext e2 h
    exact ⟨a', b', vs, ws, rfl, .inl ⟨g.hK ▸ hh.sql, g.hK ▸ h'.sql, q2 _ _ (Ext.refl _) r2 (walk_zip (g.hK ▸ hh) (r.ext e2) (g.hK ▸ h') r')⟩⟩

/-! ### targets -/
theorem SlRs.setv {H : Hp} {o : Option V} {s : Sl} : ∀ {ρ : Env} {σ : L2.St} {fp : List Addr} {i : Nat}, SlRs W H ρ σ fp → SlR W H s o [] → ∃ fp', SlRs W H (ρ.set i s) (σ.set i o) fp' ∧ fp'.Sublist fp
  | _, _, _, _, .nil, _ => ⟨[], .nil, List.Sublist.refl _⟩
  | _, _, _, 0, .cons (fp := fp) (fps := fps) h r, q => ⟨[] ++ fps, .cons q r, by simp⟩
  | _, _, _, i + 1, .cons (fp := fp) (fps := fps) h r, q => by
    obtain ⟨fp', h1, h2⟩ := SlRs.setv (i := i) r q
    exact ⟨fp ++ fp', .cons h h1, List.Sublist.append (List.Sublist.refl _) h2⟩
/-- a slot is written -/
theorem RelP.setv {C : Fx} {ρ : Env} {σ : L2.St} {H : Hp} {fp ex : List Addr} {i : Nat} {s : Sl} {o : Option V} (h : RelP W C ρ σ H fp ex) (q : SlR W H s o []) (nf : ∀ p ∈ C.fix, p.1 ≠ i) : ∃ fp', RelP W C (ρ.set i s) (σ.set i o) H fp' ex := by
  obtain ⟨fp', h1, h2⟩ := h.slots.setv (i := i) q
  obtain ⟨n1, n2, n3⟩ := List.nodup_append.mp h.nd
  refine ⟨fp', h1, List.nodup_append.mpr ⟨n1.sublist h2, n2, fun a m b m' => n3 a (h2.subset m) b m'⟩, fun a m => ?_, h.frame, h.dom, fun p hp => ?_, h.tabs⟩
  · rcases List.mem_append.mp m with m | m
    · exact h.own a (by simp [h2.subset m])
    · exact h.own a (by simp [m])
  · rw [List.getElem?_set_ne (Ne.symm (nf p hp))]; exact h.fix p hp
def FixIn (C : Fx) (io : List Nat) : Prop := ∀ p ∈ C.fix, p.1 ∈ io
theorem free_nm {C : Fx} {io : List Nat} {i : Nat} (hf : FixIn C io) (h : Tg.free io (.nm i) = true) : ∀ p ∈ C.fix, p.1 ≠ i := fun p hp z => by
  have := hf p hp
  rw [z] at this
  simp only [Tg.free, Bool.not_eq_true'] at h
  rw [List.contains_iff_mem.mpr this] at h; cases h
end
end Eg
set_option Elab.async false
set_option linter.all false
set_option maxRecDepth 100000
set_option maxHeartbeats 4000000
/-! the engine: stores into targets; list comprehensions -/
namespace Eg
open PySem PySem.Spec PyProof.Rows L2

/-- what the compiler knows of names: their places, how they stand, which may be stored -/
structure Ct where
  N : List Str
  vs : List (Str × NameKind)
  st : List (Str × NameKind)
def ixOf (x : Str) : List Str → Option Nat
  | [] => none
  | y :: ys => if y = x then some 0 else (ixOf x ys).map (· + 1)
theorem ixOf_get {x : Str} : ∀ {N : List Str} {i : Nat}, ixOf x N = some i → N[i]? = some x
  | [], _, h => by cases h
  | y :: ys, i, h => by
    unfold ixOf at h
    split at h
    · rename_i e; cases h; simp [e]
    · obtain ⟨j, h1, rfl⟩ := Option.map_eq_some_iff.mp h
      simpa using ixOf_get h1
def isLoc (l : List (Str × NameKind)) (x : Str) : Bool := match l.lookup x with
  | some .local => true
  | some .cell => true
  | _ => false
def isVis (l : List (Str × NameKind)) (x : Str) : Bool := match l.lookup x with
  | some .local => true
  | some .cell => true
  | some .free => true
  | _ => false
theorem isVis_ok {sc : Scope} {x : Str} (h : isVis sc.names x = true) : Vis sc x := by
  unfold isVis at h
  split at h
  · rename_i e; exact .inl e
  · rename_i e; exact .inr (.inl e)
  · rename_i e; exact .inr (.inr e)
  · cases h
mutual
def cTg (ct : Ct) : Nat → Expr → Option Tg
  | n + 1, .Name x _ => if isLoc ct.st x then (ixOf x ct.N).map .nm else none
  | n + 1, .Tuple es _ _ => (cTgs ct n es).map .tp
  | _, _ => none
def cTgs (ct : Ct) : Nat → List Expr → Option (List Tg)
  | _, [] => some []
  | n + 1, e :: es => (cTg ct n e).bind fun t => (cTgs ct n es).map fun ts => t :: ts
  | 0, _ :: _ => none
end

section
variable {W : Wd} {Wx : WX} {X : Cx} {pos p p2 tpos : Pos}
/-- the target's names alone may have changed -/
def Same (ks : List Nat) (σ σ' : L2.St) : Prop := σ'.length = σ.length ∧ ∀ i, i ∉ ks → σ'[i]? = σ[i]?
mutual
def Tg.nms : Tg → List Nat
  | .nm i => [i]
  | .tp ts => Tg.nmss ts
def Tg.nmss : List Tg → List Nat
  | [] => []
  | t :: ts => Tg.nms t ++ Tg.nmss ts
end
def tG (W : Wd) (io : List Nat) (tg : Tg) : TG := fun v σ H Q => ∃ C ρ d ρ' fp ex, FixIn C io ∧ tg.free io = true ∧ RelP W C ρ σ H fp ex ∧ Rep W H d v ∧ asgTg tg d ρ = some ρ' ∧ ∀ σ' fp', RelP W C ρ' σ' H fp' ex → Same tg.nms σ σ' → Q σ' H
def tGs (W : Wd) (io : List Nat) (tgs : List Tg) : TGs := fun vs σ H Q => ∃ C ρ ds ρ' fp ex, FixIn C io ∧ Tg.frees io tgs = true ∧ RelP W C ρ σ H fp ex ∧ Reps W H ds vs ∧ asgTgs tgs ds ρ = some ρ' ∧ ∀ σ' fp', RelP W C ρ' σ' H fp' ex → Same (Tg.nmss tgs) σ σ' → Q σ' H
theorem _root_.L2.PG.mono {tg : Expr} {t t' : TG} (h : PG X tg t) (k : ∀ v σ H Q, t' v σ H Q → t v σ H Q) : PG X tg t' := ⟨fun pins s σ H v u Q I r q => h.run pins s σ H v u Q I r (k v σ H Q q)⟩
theorem _root_.L2.PGs.mono {tg : List Expr} {t t' : TGs} (h : PGs X tg t) (k : ∀ v σ H Q, t' v σ H Q → t v σ H Q) : PGs X tg t' := ⟨fun pins s σ H v u Q I r q => h.run pins s σ H v u Q I r (k v σ H Q q)⟩
theorem Same.set {σ : L2.St} {i : Nat} {o : Option V} : Same [i] σ (σ.set i o) := ⟨by simp, fun j hj => List.getElem?_set_ne fun z => hj (by simp [z])⟩
theorem Same.trans {ks js : List Nat} {σ σ' σ'' : L2.St} (a : Same ks σ σ') (b : Same js σ' σ'') : Same (ks ++ js) σ σ'' := ⟨b.1.trans a.1, fun i hi => by
  simp only [List.mem_append, not_or] at hi
  rw [b.2 i hi.2, a.2 i hi.1]⟩
/-- what compiled code leans on: the names, the scope -/
structure CtOk (ct : Ct) (X : Cx) : Prop where
  N : X.N = ct.N
  vs : X.env.scope.names = ct.vs
  kd : X.env.scope.kind = .function
  st : ∀ x, isLoc ct.st x = true → Loc X.env.scope x ∧ (X.fn x = true ∨ X.env.scope.names.lookup x = some .local)
theorem assignEach_one : ∀ {es : List Expr} {env : PySem.Env}, (∀ e ∈ es, ∀ a q, e ≠ .Starred a q) → (assignEach es env).findIdx? (·.1) = none ∧ (assignEach es env).length = es.length
  | [], _, _ => ⟨rfl, rfl⟩
  | e :: es, env, h => by
    obtain ⟨h1, h2⟩ := assignEach_one (es := es) (env := env) fun e' m => h e' (by simp [m])
    have hne := h e (by simp)
    have : assignEach (e :: es) env = (false, assign e env) :: assignEach es env := by
      cases e <;> first | rfl | exact absurd rfl (hne _ _)
    rw [this]
    exact ⟨by simp [List.findIdx?_cons, h1], by simp [h2]⟩
theorem assignEach_cons {e : Expr} {es : List Expr} {env : PySem.Env} (h : ∀ a q, e ≠ .Starred a q) : (assignEach (e :: es) env).map (·.2) = assign e env :: (assignEach es env).map (·.2) := by
  cases e <;> first | rfl | exact absurd rfl (h _ _)
theorem cTg_nostar {ct : Ct} {n : Nat} {e : Expr} {t : Tg} (h : cTg ct n e = some t) : ∀ a q, e ≠ .Starred a q := fun a q z => by
  subst z
  cases n <;> simp [cTg] at h
theorem cTgs_len {ct : Ct} : ∀ {n : Nat} {es : List Expr} {ts : List Tg}, cTgs ct n es = some ts → ts.length = es.length ∧ ∀ e ∈ es, ∀ a q, e ≠ .Starred a q
  | n, [], ts, h => by
    have : ts = [] := by cases n <;> simp [cTgs] at h <;> exact h
    subst this; exact ⟨rfl, fun _ m => by cases m⟩
  | 0, e :: es, ts, h => by simp [cTgs] at h
  | n + 1, e :: es, ts, h => by
    simp only [cTgs] at h
    obtain ⟨t, h1, h2⟩ := Option.bind_eq_some_iff.mp h
    obtain ⟨ts', h3, rfl⟩ := Option.map_eq_some_iff.mp h2
    obtain ⟨l, k⟩ := cTgs_len h3
    exact ⟨by simp [l], fun e' m => (List.mem_cons.mp m).elim (fun z => z ▸ cTg_nostar h1) (k e')⟩
theorem asgTgs_len : ∀ {ts : List Tg} {ds : List D} {ρ ρ' : Env}, asgTgs ts ds ρ = some ρ' → ts.length = ds.length
  | [], [], _, _, _ => rfl
  | [], _ :: _, _, _, h => by simp [asgTgs] at h
  | _ :: _, [], _, _, h => by simp [asgTgs] at h
  | t :: ts, d :: ds, ρ, ρ', h => by
    simp only [asgTgs] at h
    obtain ⟨ρ1, _, h2⟩ := Option.bind_eq_some_iff.mp h
    simp [asgTgs_len h2]
mutual
theorem pg_tg {ct : Ct} {io : List Nat} (g : GX W Wx X) (ok : CtOk ct X) : ∀ {n : Nat} {e : Expr} {t : Tg}, cTg ct n e = some t → PG X e (tG W io t)
  | 0, e, t, h => by cases e <;> simp [cTg] at h
  | n + 1, .Name x q, t, h => by
    simp only [cTg] at h
    split at h
    · rename_i hl
      obtain ⟨i, h1, rfl⟩ := Option.map_eq_some_iff.mp h
      obtain ⟨hx, hf⟩ := ok.st x hl
      refine (pg_name g.nd (by rw [ok.N]; exact ixOf_get h1) hx hf).mono fun v σ H Q ⟨C, ρ, d, ρ', fp, ex, hf, fr, r, rp, ha, q⟩ => ?_
      simp only [asgTg] at ha
      split at ha
      · cases ha
        obtain ⟨fp', r'⟩ := r.setv (i := i) (.val rp) (free_nm hf fr)
        exact q _ fp' r' Same.set
      · cases ha
    · cases h
  | n + 1, .Tuple es k q, t, h => by
    simp only [cTg] at h
    obtain ⟨ts, h1, rfl⟩ := Option.map_eq_some_iff.mp h
    obtain ⟨l, ns⟩ := cTgs_len h1
    obtain ⟨a1, a2⟩ := assignEach_one (env := X.env) ns
    refine (pg_tup (n := es.length) g.calm (pgs_tg (io := io) g ok h1) a2 a1).mono fun v σ H Q ⟨C, ρ, d, ρ', fp, ex, hf, fr, r, rp, ha, q⟩ => ?_
    simp only [asgTg] at ha
    split at ha
    · rename_i ds
      obtain ⟨a, vs, rfl, hq, rr⟩ := (WRep.rep rp).tupI
      exact ⟨a, vs, rfl, g.hK ▸ hq, by rw [← rr.length, ← asgTgs_len ha, l], C, ρ, ds, ρ', fp, ex, hf, fr, r, rr, ha, q⟩
    · rename_i ds
      cases rp with
      | pr hq rr => exact ⟨_, _, rfl, g.hK ▸ hq, by rw [← rr.length, ← asgTgs_len ha, l], C, ρ, ds, ρ', fp, ex, hf, fr, r, rr, ha, q⟩
    · cases ha
  | n + 1, .Constant _ _ _, _, h => by simp [cTg] at h
  | n + 1, .BoolOp _ _ _, _, h => by simp [cTg] at h
  | n + 1, .NamedExpr _ _ _, _, h => by simp [cTg] at h
  | n + 1, .BinOp _ _ _ _, _, h => by simp [cTg] at h
  | n + 1, .UnaryOp _ _ _, _, h => by simp [cTg] at h
  | n + 1, .Lambda _ _ _ _, _, h => by simp [cTg] at h
  | n + 1, .IfExp _ _ _ _, _, h => by simp [cTg] at h
  | n + 1, .Dict _ _ _, _, h => by simp [cTg] at h
  | n + 1, .Set _ _ _, _, h => by simp [cTg] at h
  | n + 1, .List _ _, _, h => by simp [cTg] at h
theorem pgs_tg {ct : Ct} {io : List Nat} (g : GX W Wx X) (ok : CtOk ct X) : ∀ {n : Nat} {es : List Expr} {ts : List Tg}, cTgs ct n es = some ts → PGs X es (tGs W io ts)
  | n, [], ts, h => by
    have : ts = [] := by cases n <;> simp [cTgs] at h <;> exact h
    subst this
    refine pgs_nil.mono fun vs σ H Q ⟨C, ρ, ds, ρ', fp, ex, hf, fr, r, rp, ha, q⟩ => ?_
    cases rp with
    | nil => simp [asgTgs] at ha; subst ha; exact ⟨rfl, q σ fp r ⟨rfl, fun _ _ => rfl⟩⟩
    | cons _ _ => simp [asgTgs] at ha
  | 0, e :: es, ts, h => by simp [cTgs] at h
  | n + 1, e :: es, ts, h => by
    simp only [cTgs] at h
    obtain ⟨t, h1, h2⟩ := Option.bind_eq_some_iff.mp h
    obtain ⟨ts', h3, rfl⟩ := Option.map_eq_some_iff.mp h2
    refine (pgs_cons (pg_tg (io := io) g ok h1) (pgs_tg (io := io) g ok h3) (assignEach_cons (cTg_nostar h1))).mono fun vs σ H Q ⟨C, ρ, ds, ρ', fp, ex, hf, fr, r, rp, ha, q⟩ => ?_
    cases rp with
    | nil => simp [asgTgs] at ha
    | cons h rr =>
      simp only [asgTgs] at ha
      obtain ⟨ρ1, ha1, ha2⟩ := Option.bind_eq_some_iff.mp ha
      simp only [Tg.frees, Bool.and_eq_true] at fr
      refine ⟨_, _, rfl, C, ρ, _, ρ1, fp, ex, hf, fr.1, r, h, ha1, fun σ' fp' r' sm => ?_⟩
      exact ⟨C, ρ1, _, ρ', fp', ex, hf, fr.2, r', rr, ha2, fun σ'' fp'' r'' sm' => q σ'' fp'' r'' (by rw [Tg.nmss]; exact sm.trans sm')⟩
end
end
end Eg
set_option Elab.async false
set_option linter.all false
set_option maxRecDepth 100000
set_option maxHeartbeats 4000000
/-! the engine: list comprehensions -/
namespace Eg
open PySem PySem.Spec PyProof.Rows L2

section
variable {W : Wd} {Wx : WX} {X : Cx} {pos p p2 tpos : Pos}
def WF : WX := fun _ _ _ _ => False
theorem wipe_get {σ : L2.St} : ∀ {vs : List Nat} {i : Nat}, (wipe σ vs)[i]? = if i ∈ vs then (if i < σ.length then some none else none) else σ[i]?
  | [], i => by simp [wipe]
  | v :: vs, i => by
    unfold wipe
    by_cases hi : v = i
    · subst hi
      rw [List.getElem?_set_self', wipe_get]
      by_cases hl : v < σ.length
      · by_cases hm : v ∈ vs <;> simp [hm, hl]
      · by_cases hm : v ∈ vs <;> simp [hm, hl]
    · rw [List.getElem?_set_ne hi, wipe_get]
      have : i ∈ v :: vs ↔ i ∈ vs := by simp [Ne.symm hi]
      by_cases hm : i ∈ vs <;> simp [hm, Ne.symm hi]
mutual
theorem within_nms : ∀ (t : Tg) {ks : List Nat} {i : Nat}, t.within ks = true → i ∈ t.nms → i ∈ ks
  | .nm j, ks, i, h, m => by
    rw [Tg.within] at h; rw [Tg.nms] at m
    have : i = j := by simpa using m
    rw [this]; exact List.contains_iff_mem.mp h
  | .tp ts, ks, i, h, m => by
    rw [Tg.within] at h; rw [Tg.nms] at m
    exact withins_nms ts h m
theorem withins_nms : ∀ (ts : List Tg) {ks : List Nat} {i : Nat}, Tg.withins ks ts = true → i ∈ Tg.nmss ts → i ∈ ks
  | [], ks, i, h, m => by rw [Tg.nmss] at m; cases m
  | t :: ts, ks, i, h, m => by
    rw [Tg.withins, Bool.and_eq_true] at h; rw [Tg.nmss, List.mem_append] at m
    exact m.elim (within_nms t h.1) (withins_nms ts h.2)
end
mutual
theorem free_nil : ∀ t : Tg, t.free [] = true
  | .nm i => by simp [Tg.free]
  | .tp ts => by rw [Tg.free]; exact frees_nil ts
theorem frees_nil : ∀ ts : List Tg, Tg.frees [] ts = true
  | [] => by simp [Tg.frees]
  | t :: ts => by simp [Tg.frees, free_nil t, frees_nil ts]
end
theorem RelP.nofix {C : Fx} {ρ : Env} {σ : L2.St} {H : Hp} {fp ex : List Addr} (h : RelP W C ρ σ H fp ex) : RelP W ⟨C.G, C.In, []⟩ ρ σ H fp ex := ⟨h.slots, h.nd, h.own, h.frame, h.dom, fun _ m => (by cases m), h.tabs⟩
theorem RelP.wipe {C : Fx} {ρ : Env} {σ : L2.St} {H : Hp} {ex : List Addr} (hc : C.fix = []) : ∀ (vs : List Nat) {fp : List Addr}, RelP W C ρ σ H fp ex → ∃ fp', RelP W C (wipeE ρ vs) (L2.wipe σ vs) H fp' ex
  | [], fp, h => ⟨fp, h⟩
  | v :: vs, fp, h => by
    obtain ⟨fp', h'⟩ := RelP.wipe hc vs h
    exact h'.setv (i := v) .unb (by rw [hc]; intro p hp; cases hp)
/-- σ's own values at some places -/
def backS (σ0 σ : L2.St) : List Nat → L2.St
  | [] => σ
  | k :: ks => backS σ0 (σ.set k (σ0[k]?.getD none)) ks
theorem backS_get {σ0 : L2.St} : ∀ {ks : List Nat} {σ : L2.St} {i : Nat}, σ.length = σ0.length → (∀ j, j ∉ ks → σ[j]? = σ0[j]?) → (backS σ0 σ ks)[i]? = σ0[i]?
  | [], σ, i, _, h => by unfold backS; exact h i (by simp)
  | k :: ks, σ, i, l, h => by
    unfold backS
    refine backS_get (by simp [l]) fun j hj => ?_
    by_cases e : k = j
    · subst e
      rw [List.getElem?_set_self']
      by_cases hk : k < σ0.length
      · have h1 : σ[k]? = some (σ[k]'(by omega)) := List.getElem?_eq_getElem _
        have h2 : σ0[k]? = some σ0[k] := List.getElem?_eq_getElem _
        rw [h1, h2]; simp
      · rw [List.getElem?_eq_none (by omega : σ.length ≤ k), List.getElem?_eq_none (by omega : σ0.length ≤ k)]; rfl
    · rw [List.getElem?_set_ne e]
      exact h j (by simp [hj, Ne.symm e])
theorem RelP.restore {C : Fx} {ρ0 : Env} {σ0 : L2.St} {H H0 : Hp} {fp0 ex : List Addr} (r0 : SlRs W H0 ρ0 σ0 fp0) (e : Ext H0 H) (hc : C.fix = []) : ∀ {ks : List Nat} {ρ : Env} {σ : L2.St} {fp : List Addr}, noOwn ρ0 ks = true → RelP W C ρ σ H fp ex → ∃ fp', RelP W C (backE ρ0 ρ ks) (backS σ0 σ ks) H fp' ex
  | [], ρ, σ, fp, _, h => ⟨fp, h⟩
  | k :: ks, ρ, σ, fp, hn, h => by
    unfold noOwn at hn
    rw [List.all_cons, Bool.and_eq_true] at hn
    obtain ⟨h1, h2⟩ := hn
    have sl : SlR W H (ρ0[k]?.getD .unb) (σ0[k]?.getD none) [] := by
      cases ek : ρ0[k]? with
      | none => exact .unb
      | some s =>
        rw [ek] at h1
        cases s with
        | unb => exact .unb
        | own t => cases h1
        | val d =>
          obtain ⟨v, h3, h4⟩ := r0.valAt ek
          rw [h3]
          exact .val (h4.ext e)
    obtain ⟨fp', h'⟩ := h.setv (i := k) sl (by rw [hc]; intro p hp; cases hp)
    exact RelP.restore (ks := ks) r0 e hc (by unfold noOwn; exact h2) h'
theorem wipe_same {σ σ2 : L2.St} {tg : Tg} {own : List Nat} (hw : tg.within own = true) (sm : Same tg.nms (L2.wipe σ own) σ2) : L2.wipe σ2 own = L2.wipe σ own := by
  apply List.ext_getElem?
  intro i
  have hl : σ2.length = σ.length := by rw [sm.1, wipe_length]
  rw [wipe_get, wipe_get, hl]
  by_cases hi : i ∈ own
  · simp [hi]
  · simp only [hi, if_false]
    rw [sm.2 i fun z => hi (within_nms tg hw z), wipe_get]
    simp [hi]
theorem compGo_ne {own : List Nat} {tg : Tg} {ec : Env → Out Bool} {ee : Env → Out D} : ∀ {xs : List D} {ρ : Env} {acc : List D} {d : D} {ρ' : Env}, compGo own tg ec ee xs ρ acc ≠ .exc d ρ'
  | [], _, _, _, _ => fun z => by simp [compGo] at z
  | x :: xs, ρ, acc, d, ρ' => fun z => by
    simp only [compGo] at z
    split at z
    · cases z
    · split at z
      · split at z
        · exact compGo_ne z
        · cases z
      · exact compGo_ne z
      · cases z
def compEv (own : List Nat) (tg : Tg) (ei : Env → Out (List D)) (ec : Env → Out Bool) (ee : Env → Out D) (ρ : Env) : Out T :=
  (ei ρ).bind fun xs ρ => if noOwn ρ own && tg.within own && fits xs.length then (compGo own tg ec ee xs ρ []).bind fun ds ρ' => .ok (.lst (ds.map .fr)) (backE ρ (wipeE ρ' own) own) else .bad
/-- what a comprehension's rule asks -/
theorem lc_read {own : List Nat} {tg : Tg} {ei : Env → Out (List D)} {ec : Env → Out Bool} {ee : Env → Out D} {K : PySem.W.Frag} {σ : L2.St} {H : Hp} {Q : VK} (h : tE W Wx (compEv own tg ei ec ee) σ H Q) :
    tLc (tIt W Wx K ei) (tG W [] tg) (tTe W WF ec) (tD W WF ee) own σ H Q := by
  obtain ⟨C, ρ, rel, q⟩ := h
  refine ⟨C, ρ, rel, ?_⟩
  unfold compEv at q
  cases eo : ei ρ with
  | bad => simp only [eo, Out.bind] at q; exact q.elim
  | exc d ρ1 => simp only [eo, Out.bind] at q; exact q
  | ok xs ρ1 =>
    simp only [eo, Out.bind] at q
    intro J H1 e1 r1 wk L hD
    split at q
    · rename_i hc
      simp only [Bool.and_eq_true] at hc
      obtain ⟨⟨hno, hwi⟩, hfit⟩ := hc
      have hsz := fits_le hfit
      cases eg : compGo own tg ec ee xs ρ1 [] with
      | bad => rw [eg] at q; exact q.elim
      | exc d ρ2 => exact absurd eg compGo_ne
      | ok ds ρ2 =>
        rw [eg] at q
        simp only at q
        obtain ⟨fp0, ro⟩ := r1.opened (o := .lst []) hD (fun _ z => nomatch z)
        have e0 : Ext H1 (upd H1 L (.lst [])) := Ext.new hD
        have lD : ∀ {H : Hp} {vs : List V}, H L = some (.lst vs) → ∀ a ∈ [L], Live H a := fun {H vs} hh a m => by
          have : a = L := by simpa using m
          subst this; exact .inl ⟨_, hh⟩
        let Pv : Nat → Hp → Prop := fun i H => ∃ ρi acc vs fp, compGo own tg ec ee (xs.drop i) ρi acc = .ok ds ρ2 ∧ RelP W ⟨C.G, C.In, []⟩ (wipeE ρi own) (L2.wipe σ own) H fp [L] ∧ H L = some (.lst vs) ∧ Reps W H acc vs ∧ Ext H1 H ∧ acc.length ≤ i
        refine ⟨fun i m H => m = xs.length - i ∧ i ≤ xs.length ∧ Pv i H, ⟨xs.length, by simp, Nat.zero_le _, ?_⟩, ?_⟩
        · obtain ⟨fp1, rw1⟩ := ro.nofix.wipe rfl own
          exact ⟨ρ1, [], [], fp1, by simpa using eg, rw1, upd_same, .nil, e0, by simp⟩
        · rintro i m H2 ⟨rfl, hi, ρi, acc, vs, fp, hg, rp, hHD, ra, e2, hal⟩
          by_cases hlt : i < xs.length
          · refine .inr ⟨wk.go i H2 e2 hlt, Pv (i + 1), fun H' p' => ⟨xs.length - (i + 1), by omega, rfl, hlt, p'⟩, fun x H' y => ?_⟩
            have hx : xs[i]? = some xs[i] := List.getElem?_eq_getElem hlt
            have rs := wk.yld i H2 x H' xs[i] e2 hx y
            rw [List.drop_eq_getElem_cons hlt] at hg
            simp only [compGo] at hg
            cases ha : asgTg tg xs[i] (wipeE ρi own) with
            | none => rw [ha] at hg; cases hg
            | some ρa =>
              rw [ha] at hg
              simp only at hg
              -- the heap with the item
              obtain ⟨e3, rp3, hHD3, rx⟩ : Ext H2 H' ∧ RelP W ⟨C.G, C.In, []⟩ (wipeE ρi own) (L2.wipe σ own) H' fp [L] ∧ H' L = some (.lst vs) ∧ Rep W H' xs[i] x := by
                rcases rs with ⟨rfl, d, ed, rd⟩ | ⟨p, o, hp, ho, rfl, rfl, ⟨d, ed, rd⟩ | od⟩
                · cases ed; exact ⟨Ext.refl _, rp, hHD, rd⟩
                · cases ed; exact ⟨Ext.new hp, rp.new hp ho, by rw [upd_ne (ne_of_none hHD hp)]; exact hHD, rd⟩
                · exact ⟨Ext.new hp, rp.new hp ho, by rw [upd_ne (ne_of_none hHD hp)]; exact hHD, (own_fr od).1⟩
              refine ⟨⟨C.G, C.In, []⟩, wipeE ρi own, xs[i], ρa, fp, [L], fun _ m => (by cases m), free_nil tg, rp3, rx, ha, fun σ2 fp2 r2 sm => ⟨wipe_same hwi sm, ?_⟩⟩
              have again : ∀ {ρb : Env} {H4 : Hp} {fp4 : List Addr} {acc' : List D} {vs' : List V}, compGo own tg ec ee (xs.drop (i + 1)) ρb acc' = .ok ds ρ2 → RelP W ⟨C.G, C.In, []⟩ ρb σ2 H4 fp4 [L] → H4 L = some (.lst vs') → Reps W H4 acc' vs' → Ext H1 H4 → acc'.length ≤ i + 1 → Pv (i + 1) H4 := fun {ρb H4 fp4 acc' vs'} h1 h2 h3 h4 h5 h6 => by
                obtain ⟨fp5, h7⟩ := h2.wipe rfl own
                rw [wipe_same hwi sm] at h7
                exact ⟨ρb, acc', vs', fp5, h1, h7, h3, h4, h5, h6⟩
              have ra3 := ra.ext e3
              cases ec1 : ec ρa with
              | bad => rw [ec1] at hg; cases hg
              | exc d ρb => rw [ec1] at hg; cases hg
              | ok b ρb =>
                rw [ec1] at hg
                refine ⟨⟨H', fp2, []⟩, ρa, ⟨fp2, r2.base2⟩, ?_⟩
                rw [ec1]
                intro H4 e4 ⟨fp4, r4⟩
                obtain ⟨ke, r5⟩ := r2.back2 (lD hHD3) r4
                have hHD4 : H4 L = some (.lst vs) := (ke L (by simp)).trans hHD3
                cases b with
                | false =>
                  simp only at hg
                  simp only [Bool.false_eq_true, if_false]
                  exact again hg (by simpa using r5) hHD4 (ra3.ext e4) (e2.trans (e3.trans e4)) (by omega)
                | true =>
                  simp only at hg
                  simp only [if_true]
                  cases ee1 : ee ρb with
                  | bad => rw [ee1] at hg; cases hg
                  | exc d ρc => rw [ee1] at hg; cases hg
                  | ok dd ρc =>
                    rw [ee1] at hg
                    simp only at hg
                    refine ⟨⟨H', fp2, []⟩, ρb, ⟨fp4, r4⟩, ?_⟩
                    rw [ee1]
                    intro y H5 e5 ⟨fp5, r6⟩ ry
                    obtain ⟨ke2, r7⟩ := r2.back2 (lD hHD3) r6
                    have hHD5 : H5 L = some (.lst vs) := (ke2 L (by simp)).trans hHD3
                    have lv := lD hHD5 L (by simp)
                    have r8 := (show RelP W ⟨C.G, C.In, []⟩ ρc σ2 H5 fp5 [L] by simpa using r7).write (o := .lst (vs ++ [y])) (by simp) lv (fun _ z => nomatch z)
                    have e6 : Ext H5 (upd H5 L (.lst (vs ++ [y]))) := Ext.upd lv
                    have e7 := e4.trans (e5.trans e6)
                    refine ⟨vs, hHD5, ?_, again hg r8 upd_same ((ra3.ext e7).append (.cons (ry.ext e6) .nil)) (e2.trans (e3.trans e7)) (by simp; omega)⟩
                    rw [← ra.length]; omega
          · have ei : i = xs.length := by omega
            subst ei
            refine .inl ⟨wk.stop H2 e2, ?_⟩
            rw [List.drop_length] at hg
            simp only [compGo] at hg
            cases hg
            obtain ⟨fpr, rr⟩ := r1
            obtain ⟨fp', r'⟩ := rp.restore (H0 := H1) rr.slots e2 rfl hno
            have es : backS σ (L2.wipe σ own) own = σ := by
              apply List.ext_getElem?
              intro j
              exact backS_get (wipe_length _ _) fun k hk => by rw [wipe_get]; simp [hk]
            rw [es] at r'
            exact q (.ref L) H2 (e1.trans e2) ⟨fp', [L], .lst hHD (ra.owns), r'.slots, r'.nd, r'.own, r'.frame, r'.dom, rr.fix, r'.tabs⟩
    · exact q.elim
/-- a context's twin for a block -/
theorem GX.blk {s : Shared} {H : Hp} {C : Addr} {cl : List (Str × Addr)} {fp : List Addr} {scope : Scope} (g : GX W Wx X) : GX W WF (X.blk s H scope (compEnvC scope cl C X.env) fp) := by
  refine ⟨g.hK, g.calm, g.nd, ?_, g.hu, g.hg⟩
  rintro u s' ⟨a, B, sI, pins, σ, H, cls, d, e, I, nb, up, sky, na, os, ag, w⟩
  exact w.elim
theorem sb_lc {elt tgx iter : Expr} {ifs : List Expr} {scope : Scope} {own : List (Str × Nat)} {tg : Tg} {ei : Env → Out (List D)} {ec : Env → Out Bool} {ee : Env → Out D} (g : GX W Wx X) (hi : PI X tgx iter (tIt W Wx X.K ei)) (ok : BlkOk X.N X.env.scope scope own)
    (hg : ∀ (s : Shared) (H : Hp) (C : Addr) (cl : List (Str × Addr)) (fp : List Addr), PG (X.blk s H scope (compEnvC scope cl C X.env) fp) tgx (tG W [] tg)) (ht : ∀ (s : Shared) (H : Hp) (C : Addr) (cl : List (Str × Addr)) (fp : List Addr), PTs (X.blk s H scope (compEnvC scope cl C X.env) fp) ifs (tTe W WF ec))
    (he : ∀ (s : Shared) (H : Hp) (C : Addr) (cl : List (Str × Addr)) (fp : List Addr), PE (X.blk s H scope (compEnvC scope cl C X.env) fp) elt (tD W WF ee)) (hs : ∀ x, foldedSetIterable iter X.env x = pure x) :
    PE X (.ListComp elt [⟨tgx, iter, ifs, 0⟩] scope pos) (tE W Wx (compEv (own.map (·.2)) tg ei ec ee)) :=
  (pe_lc g.calm g.nd hi ok hg ht he hs).mono fun σ H Q q => lc_read q
end
end Eg
set_option Elab.async false
set_option linter.all false
set_option maxRecDepth 100000
set_option maxHeartbeats 4000000
/-! the engine: statements -/
namespace Eg
open PySem PySem.Spec PyProof.Rows L2

section
variable {W : Wd} {Wx : WX} {X : Cx} {pos p p2 tpos : Pos}
theorem Owns.append {H : Hp} : ∀ {ts us : List T} {vs ws : List V} {fp gp : List Addr}, Owns W H ts vs fp → Owns W H us ws gp → Owns W H (ts ++ us) (vs ++ ws) (fp ++ gp)
  | _, _, _, _, _, _, .nil, s => s
  | _, _, _, _, _, _, .cons h r, s => by
    have := Owns.cons h (Owns.append r s)
    simpa using this
theorem Owns.set {H : Hp} {d : D} {v : V} (q : Rep W H d v) : ∀ {ts : List T} {vs : List V} {fp : List Addr} {j : Nat}, Owns W H ts vs fp → ∃ fp', Owns W H (ts.set j (.fr d)) (vs.set j v) fp' ∧ fp'.Sublist fp
  | _, _, _, _, .nil => ⟨[], .nil, List.Sublist.refl _⟩
  | _, _, _, 0, .cons (fp := fp) (fps := fps) h r => ⟨[] ++ fps, .cons (.fr q) r, by simp⟩
  | _, _, _, j + 1, .cons (fp := fp) (fps := fps) h r => by
    obtain ⟨fp', h1, h2⟩ := Owns.set (j := j) q r
    exact ⟨fp ++ fp', .cons h h1, List.Sublist.append (List.Sublist.refl _) h2⟩
theorem Owns.erase {H : Hp} : ∀ {ts : List T} {vs : List V} {fp : List Addr} {j : Nat}, Owns W H ts vs fp → ∃ fp', Owns W H (ts.eraseIdx j) (vs.eraseIdx j) fp' ∧ fp'.Sublist fp
  | _, _, _, _, .nil => ⟨[], .nil, List.Sublist.refl _⟩
  | _, _, _, 0, .cons (fp := fp) (fps := fps) h r => ⟨fps, r, by simp⟩
  | _, _, _, j + 1, .cons (fp := fp) (fps := fps) h r => by
    obtain ⟨fp', h1, h2⟩ := Owns.erase (j := j) r
    exact ⟨fp ++ fp', .cons h h1, List.Sublist.append (List.Sublist.refl _) h2⟩
/-- an own list is written -/
theorem Rel.updLst {C : Fx} {ρ : Env} {σ : L2.St} {H : Hp} {i : Nat} {ts : List T} (rel : Rel W C ρ σ H) (e : ρ[i]? = some (.own (.lst ts))) : ∃ a vs, σ[i]? = some (some (.ref a)) ∧ H a = some (.lst vs) ∧ (∃ fp, Owns W H ts vs fp) ∧
    ∀ ts' vs', (∀ fp, Owns W H ts vs fp → ∃ fp', Owns W H ts' vs' fp' ∧ fp'.Sublist fp) → Ext H (upd H a (.lst vs')) ∧ Rel W C (ρ.set i (.own (.lst ts'))) σ (upd H a (.lst vs')) := by
  obtain ⟨fp, r⟩ := rel
  obtain ⟨o, f1, f2, f3, h1, h2, h3, h4⟩ := r.slots.at e
  cases h3 with
  | own ow =>
    cases ow with
    | lst ha os =>
      rename_i a vs fpo
      subst h2
      have nd := r.nd
      simp only [List.append_nil] at nd
      obtain ⟨n1, n2, n3⟩ := List.nodup_append.mp nd
      obtain ⟨m1, m2, m3⟩ := List.nodup_append.mp n2
      obtain ⟨k1, k2⟩ := List.nodup_cons.mp m1
      refine ⟨a, vs, h1, ha, ⟨fpo, os⟩, fun ts' vs' tr => ?_⟩
      obtain ⟨fp', os', sub⟩ := tr fpo os
      have lv : Live H a := .inl ⟨_, ha⟩
      have ex : Ext H (upd H a (.lst vs')) := Ext.upd lv
      have ko : ∀ b ∈ f1 ++ f3, upd H a (.lst vs') b = H b := fun b m => upd_ne fun z => by
        subst z
        rcases List.mem_append.mp m with m | m
        · exact n3 b m b (by simp) rfl
        · exact m3 b (by simp) b m rfl
      have os2 : Owns W (upd H a (.lst vs')) ts' vs' fp' := os'.ext ex fun b m => upd_ne fun z => k1 (z ▸ sub.subset m)
      have sl := h4 (upd H a (.lst vs')) (.own (.lst ts')) (some (.ref a)) (a :: fp') ex ko (.own (.lst upd_same os2))
      rw [set_same h1] at sl
      have sub2 : (f1 ++ (a :: fp' ++ f3)).Sublist (f1 ++ (a :: fpo ++ f3)) := List.Sublist.append (List.Sublist.refl _) (List.Sublist.append (List.Sublist.cons₂ a sub) (List.Sublist.refl _))
      refine ⟨ex, _, sl, by simpa using nd.sublist sub2, fun b m => r.own b ?_, fun b u g n nt => ?_, fun b g => ?_, r.fix, Tabs.keep r.tabs ex fun b ps g => ?_⟩
      · simp only [List.append_nil] at m ⊢
        exact sub2.subset m
      · rw [upd_ne fun z => ?_]; exact r.frame b u g n nt
        subst z
        rcases r.own b (by simp) with y | y
        · exact n y
        · rw [g] at y; cases y
      · by_cases z : b = a
        · rw [z, upd_same]; exact fun z => nomatch z
        · rw [upd_ne z]; exact r.dom b g
      · rw [upd_ne fun z => ?_]; exact g
        rw [z, ha] at g; cases g
/-- an own thing is stored into a name -/
theorem RelT.store {C : Fx} {ρ : Env} {σ : L2.St} {H : Hp} {i : Nat} {t : T} {v : V} (h : RelT W C ρ σ H t v) (hi : i < ρ.length) (nf : ∀ p ∈ C.fix, p.1 ≠ i) : Rel W C (ρ.set i (.own t)) (σ.set i (some v)) H := by
  obtain ⟨fp, ft, ow, r⟩ := h
  obtain ⟨n1, n2, n3⟩ := List.nodup_append.mp r.nd
  obtain ⟨s, hs⟩ : ∃ s, ρ[i]? = some s := ⟨ρ[i], List.getElem?_eq_getElem hi⟩
  obtain ⟨o, f1, f2, f3, h1, h2, _, h4⟩ := r.slots.at hs
  subst h2
  have sl := h4 H (.own t) (some v) ft (Ext.refl _) (fun _ _ => rfl) (.own ow)
  obtain ⟨k1, k2, k3⟩ := List.nodup_append.mp n1
  obtain ⟨m1, m2, m3⟩ := List.nodup_append.mp k2
  refine ⟨_, sl, ?_, fun a m => ?_, r.frame, r.dom, fun p hp => ?_, r.tabs⟩
  · simp only [List.append_nil]
    refine List.nodup_append.mpr ⟨k1, List.nodup_append.mpr ⟨n2, m2, fun a m b m' z => n3 b (by simp [m']) a m z.symm⟩, fun a m b m' z => ?_⟩
    rcases List.mem_append.mp m' with m' | m'
    · exact n3 a (by simp [m]) b m' z
    · exact k3 a m b (by simp [m']) z
  · simp only [List.append_nil, List.mem_append] at m
    refine r.own a ?_
    simp only [List.mem_append]
    rcases m with m | m | m
    · exact .inl (.inl m)
    · exact .inr m
    · exact .inl (.inr (.inr m))
  · rw [List.getElem?_set_ne (Ne.symm (nf p hp))]; exact r.fix p hp
theorem Rel.setv {C : Fx} {ρ : Env} {σ : L2.St} {H : Hp} {i : Nat} {d : D} {v : V} (h : Rel W C ρ σ H) (q : Rep W H d v) (nf : ∀ p ∈ C.fix, p.1 ≠ i) : Rel W C (ρ.set i (.val d)) (σ.set i (some v)) H := by
  obtain ⟨fp, h⟩ := h
  obtain ⟨fp', h'⟩ := h.setv (i := i) (.val q) nf
  exact ⟨fp', h'⟩

/-! ### readings -/
def wS (W : Wd) (C : Fx) (Wx : WX) (o : SO) (D : Ends) (H : Hp) : Prop := match o with
  | .next ρ => ∀ σ' H', Ext H H' → Rel W C ρ σ' H' → D.nx σ' H'
  | .ret t ρ => ∀ v σ' H', Ext H H' → RelT W C ρ σ' H' t v → D.rt v H'
  | .brk ρ => ∀ σ' H', Ext H H' → Rel W C ρ σ' H' → D.bk σ' H'
  | .cnt ρ => ∀ σ' H', Ext H H' → Rel W C ρ σ' H' → D.ct σ' H'
  | .exc d ρ => ∀ cls dx σ' H', Ext H H' → RepX W C.G H' d cls dx → Rel W C ρ σ' H' → Wx cls dx σ' H'
  | .bad => False
def tS (W : Wd) (Wx : WX) (io : List Nat) (ev : Env → SO) : TS := fun D σ H => ∃ C ρ, FixIn C io ∧ Rel W C ρ σ H ∧ wS W C Wx (ev ρ) D H
theorem wS.mono {C : Fx} {o : SO} {D : Ends} {H H1 : Hp} (e : Ext H H1) (h : wS W C Wx o D H) : wS W C Wx o D H1 := by
  cases o with
  | next ρ => exact fun σ' H' e' => h σ' H' (e.trans e')
  | ret t ρ => exact fun v σ' H' e' => h v σ' H' (e.trans e')
  | brk ρ => exact fun σ' H' e' => h σ' H' (e.trans e')
  | cnt ρ => exact fun σ' H' e' => h σ' H' (e.trans e')
  | exc d ρ => exact fun cls dx σ' H' e' => h cls dx σ' H' (e.trans e')
  | bad => exact h
theorem _root_.L2.PS.mono {st : Stmt} {t t' : TS} (h : PS X st t) (k : ∀ D σ H, t' D σ H → t D σ H) : PS X st t' := ⟨fun pins s σ H D I q => h.run pins s σ H D I (k D σ H q)⟩
theorem _root_.L2.PSs.mono {st : List Stmt} {t t' : TS} (h : PSs X st t) (k : ∀ D σ H, t' D σ H → t D σ H) : PSs X st t' := ⟨fun pins s σ H D I q => h.run pins s σ H D I (k D σ H q)⟩
variable {io kp : List Nat} {D : Ends} {C : Fx} {σ : L2.St} {H : Hp}
/-- a value ahead of a statement's step -/
theorem wS_ofE {o : Out T} {f : T → Env → SO} (h : wS W C Wx (SO.of o f) D H) : wE W C Wx o σ H (fun v H1 => ∃ t ρ, Ext H H1 ∧ o = .ok t ρ ∧ RelT W C ρ σ H1 t v ∧ wS W C Wx (f t ρ) D H1) := by
  cases o with
  | ok t ρ => exact fun v H1 e r => ⟨t, ρ, e, rfl, r, wS.mono e h⟩
  | exc d ρ => exact fun cls dx H' e rx r => h cls dx σ H' e rx r
  | bad => exact h
theorem wS_ofD {o : Out Eg.D} {f : Eg.D → Env → SO} {Dn : Ends} (h : wS W C Wx (SO.of o f) Dn H) : wD W C Wx o σ H (fun v H1 => ∃ d ρ, Ext H H1 ∧ Rel W C ρ σ H1 ∧ Rep W H1 d v ∧ wS W C Wx (f d ρ) Dn H1) := by
  cases o with
  | ok t ρ => exact fun v H1 e r p => ⟨t, ρ, e, r, p, wS.mono e h⟩
  | exc d ρ => exact fun cls dx H' e rx r => h cls dx σ H' e rx r
  | bad => exact h
theorem wS_ofT {o : Out Bool} {f : Bool → Env → SO} (h : wS W C Wx (SO.of o f) D H) : wT W C Wx o σ H (fun b H1 => ∃ ρ, Ext H H1 ∧ Rel W C ρ σ H1 ∧ wS W C Wx (f b ρ) D H1) := by
  cases o with
  | ok t ρ => exact fun H1 e r => ⟨ρ, e, r, wS.mono e h⟩
  | exc d ρ => exact fun cls dx H' e rx r => h cls dx σ H' e rx r
  | bad => exact h
theorem wE.imp {o : Out T} {Q Q' : VK} (h : wE W C Wx o σ H Q) (k : ∀ v H, Q v H → Q' v H) : wE W C Wx o σ H Q' := by
  cases o with
  | ok t ρ => exact fun v H1 e r => k _ _ (h v H1 e r)
  | exc d ρ => exact h
  | bad => exact h
theorem wD.imp {o : Out Eg.D} {Q Q' : VK} (h : wD W C Wx o σ H Q) (k : ∀ v H, Q v H → Q' v H) : wD W C Wx o σ H Q' := by
  cases o with
  | ok t ρ => exact fun v H1 e r p => k _ _ (h v H1 e r p)
  | exc d ρ => exact h
  | bad => exact h
theorem wT.imp {o : Out Bool} {Q Q' : Bool → Hp → Prop} (h : wT W C Wx o σ H Q) (k : ∀ v H, Q v H → Q' v H) : wT W C Wx o σ H Q' := by
  cases o with
  | ok t ρ => exact fun H1 e r => k _ _ (h H1 e r)
  | exc d ρ => exact h
  | bad => exact h
/-! ### the small ones -/
theorem ss_pass : PS X (.Pass pos) (tS W Wx io fun ρ => .next ρ) := ps_pass.mono fun D σ H ⟨C, ρ, hf, rel, q⟩ => q σ H (Ext.refl _) rel
theorem ss_brk : PS X (.Break pos) (tS W Wx io fun ρ => .brk ρ) := ps_break.mono fun D σ H ⟨C, ρ, hf, rel, q⟩ => q σ H (Ext.refl _) rel
theorem ss_cnt : PS X (.Continue pos) (tS W Wx io fun ρ => .cnt ρ) := ps_continue.mono fun D σ H ⟨C, ρ, hf, rel, q⟩ => q σ H (Ext.refl _) rel
theorem ss_nil : PSs X [] (tS W Wx io fun ρ => .next ρ) := pss_nil.mono fun D σ H ⟨C, ρ, hf, rel, q⟩ => q σ H (Ext.refl _) rel
def seqS (a b : Env → SO) (ρ : Env) : SO := match a ρ with
  | .next ρ => b ρ
  | o => o
theorem ss_cons {st : Stmt} {rest : List Stmt} {ea eb : Env → SO} (h1 : PS X st (tS W Wx io ea)) (h2 : PSs X rest (tS W Wx io eb)) : PSs X (st :: rest) (tS W Wx io (seqS ea eb)) := by
  refine (pss_cons h1 h2).mono fun D σ H ⟨C, ρ, hf, rel, q⟩ => ⟨C, ρ, hf, rel, ?_⟩
  unfold seqS at q
  cases eo : ea ρ with
  | next ρ1 => rw [eo] at q; exact fun σ1 H1 e1 r1 => ⟨C, ρ1, hf, r1, wS.mono e1 q⟩
  | ret t ρ1 => rw [eo] at q; exact q
  | brk ρ1 => rw [eo] at q; exact q
  | cnt ρ1 => rw [eo] at q; exact q
  | exc d ρ1 => rw [eo] at q; exact q
  | bad => rw [eo] at q; exact q
variable {e : Expr} {ee : Env → Out T} {ed : Env → Out Eg.D}
theorem ss_expr (he : PE X e (tE W Wx ee)) (hs : swapsWith e none pos.line X.env = pure false) : PS X (.Expr e pos) (tS W Wx io fun ρ => SO.of (ee ρ) fun _ ρ => .next ρ) :=
  (ps_expr he hs).mono fun D σ H ⟨C, ρ, hf, rel, q⟩ => ⟨C, ρ, rel, (wS_ofE q).imp fun v H1 ⟨t, ρ1, e1, _, r1, q1⟩ => q1 σ H1 (Ext.refl _) r1.rel⟩
theorem ss_ret (he : PE X e (tE W Wx ee)) : PS X (.Return (some e) pos) (tS W Wx io fun ρ => SO.of (ee ρ) fun t ρ => .ret t ρ) :=
  (ps_ret he).mono fun D σ H ⟨C, ρ, hf, rel, q⟩ => ⟨C, ρ, rel, (wS_ofE q).imp fun v H1 ⟨t, ρ1, e1, _, r1, q1⟩ => q1 v σ H1 (Ext.refl _) r1⟩
theorem ss_retN : PS X (.Return none pos) (tS W Wx io fun ρ => .ret (.fr .non) ρ) :=
  ps_retN.mono fun D σ H ⟨C, ρ, hf, rel, q⟩ => q .non σ H (Ext.refl _) (rel.relT .non)
variable {test : Expr} {a b : List Stmt} {ec : Env → Out Bool} {ea eb : Env → SO}
theorem ss_if (hc : PT X test (tTe W Wx ec)) (ha : PSs X a (tS W Wx io ea)) (hb : PSs X b (tS W Wx io eb)) : PS X (.If test a b pos) (tS W Wx io fun ρ => SO.of (ec ρ) fun k ρ => if k then ea ρ else eb ρ) := by
  refine (ps_if hc ha hb).mono fun D σ H ⟨C, ρ, hf, rel, q⟩ => ⟨C, ρ, rel, (wS_ofT q).imp fun k H1 ⟨ρ1, e1, r1, q1⟩ => ?_⟩
  cases k with
  | true => exact ⟨C, ρ1, hf, r1, q1⟩
  | false => exact ⟨C, ρ1, hf, r1, q1⟩
/-- name = e, the store by a rule of its own -/
theorem ss_set {st : Stmt} {i : Nat} (hS : PS X st (tAsg (tE W Wx ee) (gName i))) : PS X st (tS W Wx io fun ρ => SO.of (ee ρ) fun t ρ => store io kp i t ρ) := by
  refine ⟨fun pins s σ H D I ⟨C, ρ, hf, rel, q⟩ => ?_⟩
  have hq := hS.run pins s σ H { D with nx := fun σ1 H1 => ∃ (t : T) (ρ1 : Env), Ext H H1 ∧ i < ρ1.length ∧ Rel W C (ρ1.set i (.own t)) σ1 H1 ∧ ∀ σ' H', Ext H1 H' → Rel W C (ρ1.set i (slKeep (kp.contains i) t)) σ' H' → D.nx σ' H' } I
    ⟨C, ρ, rel, (wS_ofE q).imp fun v H1 ⟨t, ρ1, e1, _, r1, q1⟩ => ?_⟩
  · refine thn hq fun f s1 h1 => ?_
    cases f with
    | next =>
      obtain ⟨σ1, H1, I1, t, ρ1, e1, hi, r1, k⟩ := h1
      cases hk : kp.contains i with
      | true =>
        rw [hk] at k
        exact ⟨σ1, H1, I1, k σ1 H1 (Ext.refl _) r1⟩
      | false =>
        rw [hk] at k
        obtain ⟨v, H2, _, I2, e2, r2, _⟩ := r1.freezeAt I1 (i := i) (t := t) (by rw [List.getElem?_set_self hi])
        rw [List.set_set] at r2
        exact ⟨σ1, H2, I2, k σ1 H2 e2 r2⟩
    | brk => exact h1
    | cont => exact h1
    | ret v => exact h1
  · unfold store at q1
    split at q1
    · rename_i hc
      simp only [Bool.and_eq_true, decide_eq_true_eq, Bool.not_eq_true'] at hc
      have nf : ∀ p ∈ C.fix, p.1 ≠ i := fun p hp z => by
        have := hf p hp
        rw [z] at this
        rw [List.contains_iff_mem.mpr this] at hc; cases hc.1
      exact ⟨t, ρ1, e1, hc.2, r1.store hc.2 nf, fun σ' H' e' r' => q1 σ' H' e' r'⟩
    · exact q1.elim
/-- a target of several names -/
theorem ss_asgT {tg : Expr} {t : Tg} (he : PE X e (tD W Wx ed)) (hg : PG X tg (tG W io t)) (hs : swapsWithSole [tg] e pos.line X.env = pure false) (hw : swappedStores [tg] e X.env = pure none) (h1 : (assignEach [tg] X.env).map (·.2) = [assign tg X.env]) :
    PS X (.Assign [tg] e pos) (tS W Wx io fun ρ => SO.of (ed ρ) fun d ρ => if t.free io then match asgTg t d ρ with
    | some ρ => .next ρ
    | none => .bad
    else .bad) := by
  refine (ps_asg he hg hs hw h1).mono fun D σ H ⟨C, ρ, hf, rel, q⟩ => ⟨C, ρ, rel, (wS_ofD q).imp fun v H1 ⟨d, ρ1, e1, ⟨fp, r1⟩, p1, q1⟩ => ?_⟩
  split at q1
  · rename_i hfree
    cases ha : asgTg t d ρ1 with
    | none => rw [ha] at q1; exact q1.elim
    | some ρ2 =>
      rw [ha] at q1
      exact ⟨C, ρ1, d, ρ2, fp, [], hf, hfree, r1, p1, ha, fun σ' fp' r' _ => q1 σ' H1 (Ext.refl _) ⟨fp', r'⟩⟩
  · exact q1.elim

/-! ### own lists -/
theorem isLstS_ok {s : Option Sl} (h : isLstS s = true) : ∃ ts, s = some (.own (.lst ts)) := by
  unfold isLstS at h
  split at h
  · exact ⟨_, rfl⟩
  · cases h
/-- xs.append(e) -/
theorem ss_app {x : Str} {i : Nat} {apos cpos : Pos} (hN : X.N[i]? = some x) (hv : Vis X.env.scope x) (hd : (x == ("__debug__" : Str)) = false) (hcd : (x == ("__classdict__" : Str)) = false) (he : PE X e (tD W Wx ed)) (hst : isStar e = false) (hline : (apos.endLine == cpos.line) = true)
    (hbase : attributeBase (.Name x p) "append" X.env (eval (.Name x p) X.env) = eval (.Name x p) X.env)
    (hfew : ((backTo cpos (starEach [e] X.env)).all (fun x => !x.1) && (backToKw cpos (keywordEach [] X.env)).all (fun x => x.1.isSome) && decide (([e] : List Expr).length + ([] : List Keyword).length + (if ([] : List Keyword).isEmpty then 0 else 1) < 30)) = true) :
    PS X (.Expr (.Call (.Attribute (.Name x p) "append" apos) [e] [] cpos) pos) (tS W Wx io fun ρ => if !isLstS ρ[i]? then .bad else SO.of (ed ρ) fun d ρ => match ρ[i]? with
    | some (.own (.lst ts)) => if ts.length < 16777216 then .next (ρ.set i (.own (.lst (ts ++ [.fr d])))) else .bad
    | _ => .bad) := by
  refine (ps_expr (pe_bm PySem.F.plainAttrs_list PySem.F.slot_list_append PySem.F.type_list_append mt_append (pe_var (pos := p) hN hv hd hcd) (pa_cons he pa_nil (plain_star (isStar_ne hst))) hbase hfew hline (plain_star (isStar_ne hst)) rfl)).mono fun D σ H ⟨C, ρ, hf, rel, q⟩ => ?_
  cases hl : isLstS ρ[i]? with
  | false => simp only [hl] at q; exact q.elim
  | true =>
    simp only [hl] at q
    obtain ⟨ts0, e0⟩ := isLstS_ok hl
    obtain ⟨a0, vs0, s0, h0, _, _⟩ := rel.updLst e0
    refine ⟨.ref a0, s0, .inl ⟨rfl, vs0, .inl (.inl h0)⟩, C, ρ, rel, (wS_ofD q).imp fun v H1 ⟨d, ρ1, e1, r1, p1, q1⟩ => ?_⟩
    split at q1
    · rename_i ts es
      split at q1
      · rename_i hlen
        obtain ⟨a, vs, s1, h1, ⟨fp, os⟩, up⟩ := r1.updLst es
        rw [s0] at s1; cases s1
        obtain ⟨e2, r2⟩ := up (ts ++ [.fr d]) (vs ++ [v]) fun fp os => ⟨fp ++ [], os.append (by have := Owns.cons (Own.fr p1) Owns.nil; simpa using this), by simp⟩
        exact ⟨a0, vs, v, rfl, rfl, h1, by rw [sizeLine_eq, ← os.length]; exact hlen, q1 σ _ e2 r2⟩
      · exact q1.elim
    · exact q1.elim
/-- xs.extend(e) -/
theorem ss_ext {x : Str} {i : Nat} {apos cpos : Pos} (hN : X.N[i]? = some x) (hv : Vis X.env.scope x) (hd : (x == ("__debug__" : Str)) = false) (hcd : (x == ("__classdict__" : Str)) = false) (he : PE X e (tE W Wx ee)) (hst : isStar e = false) (hline : (apos.endLine == cpos.line) = true)
    (hbase : attributeBase (.Name x p) "extend" X.env (eval (.Name x p) X.env) = eval (.Name x p) X.env)
    (hfew : ((backTo cpos (starEach [e] X.env)).all (fun x => !x.1) && (backToKw cpos (keywordEach [] X.env)).all (fun x => x.1.isSome) && decide (([e] : List Expr).length + ([] : List Keyword).length + (if ([] : List Keyword).isEmpty then 0 else 1) < 30)) = true) :
    PS X (.Expr (.Call (.Attribute (.Name x p) "extend" apos) [e] [] cpos) pos) (tS W Wx io fun ρ => if !isLstS ρ[i]? then .bad else SO.of (ee ρ) fun t ρ => extS i t ρ) := by
  refine (ps_expr (pe_bm PySem.F.plainAttrs_list PySem.F.slot_list_extend PySem.F.type_list_extend mt_extend (pe_var (pos := p) hN hv hd hcd) (pa_cons he pa_nil (plain_star (isStar_ne hst))) hbase hfew hline (plain_star (isStar_ne hst)) rfl)).mono fun D σ H ⟨C, ρ, hf, rel, q⟩ => ?_
  cases hl : isLstS ρ[i]? with
  | false => simp only [hl] at q; exact q.elim
  | true =>
    simp only [hl] at q
    obtain ⟨ts0, e0⟩ := isLstS_ok hl
    obtain ⟨a0, vs0, s0, h0, _, _⟩ := rel.updLst e0
    refine ⟨.ref a0, s0, .inl ⟨rfl, vs0, .inl (.inl h0)⟩, C, ρ, rel, (wS_ofE q).imp fun v H1 ⟨t, ρ1, e1, _, r1, q1⟩ => ?_⟩
    unfold extS at q1
    split at q1
    · rename_i us
      split at q1
      · rename_i ts ds es ef
        split at q1
        · rename_i hlen
          obtain ⟨fpx, ft, ow, rp⟩ := id r1
          cases ow with
          | @lst _ b ws gp hb osb =>
            obtain ⟨rds, _⟩ := frs_owns ef osb
            obtain ⟨a, vs, s1, h1, ⟨fp, os⟩, up⟩ := r1.rel.updLst es
            rw [s0] at s1; cases s1
            obtain ⟨e2, r2⟩ := up (ts ++ ds.map .fr) (vs ++ ws) fun fp os => ⟨fp ++ [], os.append rds.owns, by simp⟩
            have hz := fits_le hlen
            exact ⟨a0, b, vs, ws, rfl, rfl, h1, hb, by rw [← os.length, ← rds.length]; exact hz, q1 σ _ e2 r2⟩
        · exact q1.elim
      · exact q1.elim
    · exact q1.elim
/-- xs[k] = e -/
theorem ss_asgI {x : Str} {i : Nat} {ix : Expr} {ei : Env → Out Eg.D} {tpos : Pos} (hN : X.N[i]? = some x) (hv : Vis X.env.scope x) (hd : (x == ("__debug__" : Str)) = false) (hcd : (x == ("__classdict__" : Str)) = false) (he : PE X e (tD W Wx ed)) (hi : PE X ix (tD W Wx ei))
    (ha : ∀ v, assign (.Subscript (.Name x p) ix tpos) X.env v = (do
      let ov ← holding [v] (eval (.Name x p) X.env)
      let iv ← holding [v, ov] (eval ix X.env)
      standAt tpos
      holding [v, ov, iv] (setItem ov iv v)
      release [v, ov, iv] []))
    (hs : swapsWithSole [.Subscript (.Name x p) ix tpos] e pos.line X.env = pure false) (hw : swappedStores [.Subscript (.Name x p) ix tpos] e X.env = pure none) :
    PS X (.Assign [.Subscript (.Name x p) ix tpos] e pos) (tS W Wx io fun ρ => SO.of (ed ρ) fun d ρ => if !isLstS ρ[i]? then .bad else SO.of (ei ρ) fun y ρ =>
    match ρ[i]?, y with
    | some (.own (.lst ts)), .int k => match L2.ixN ts.length k with
        | some j => .next (ρ.set i (.own (.lst (ts.set j (.fr d)))))
        | none => .bad
    | _, _ => .bad) := by
  refine (ps_asg he (pg_sub (pe_var (pos := p) hN hv hd hcd) hi set_list ha) hs hw).mono fun D σ H ⟨C, ρ, hf, rel, q⟩ => ⟨C, ρ, rel, (wS_ofD q).imp fun v H1 ⟨d, ρ1, e1, r1, p1, q1⟩ => ?_⟩
  cases hl : isLstS ρ1[i]? with
  | false => simp only [hl] at q1; exact q1.elim
  | true =>
    simp only [hl] at q1
    obtain ⟨ts0, e0⟩ := isLstS_ok hl
    obtain ⟨a0, vs0, s0, h0, _, _⟩ := r1.updLst e0
    refine ⟨.ref a0, s0, C, ρ1, r1, (wS_ofD q1).imp fun u H2 ⟨y, ρ2, e2, r2, p2, q2⟩ => ?_⟩
    split at q2
    · rename_i ts k es
      cases p2
      split at q2
      · rename_i j ej
        obtain ⟨a, vs, s1, h1, ⟨fp, os⟩, up⟩ := r2.updLst es
        rw [s0] at s1; cases s1
        obtain ⟨e3, r3⟩ := up (ts.set j (.fr d)) (vs.set j v) fun fp os => Owns.set (p1.ext e2) os
        exact ⟨a0, vs, k, j, rfl, rfl, h1, by rw [← os.length]; exact ej, q2 σ _ e3 r3⟩
      · exact q2.elim
    · exact q2.elim
end
end Eg
set_option Elab.async false
set_option linter.all false
set_option maxRecDepth 100000
set_option maxHeartbeats 4000000
/-! the engine: loops; a def's promise -/
namespace Eg
open PySem PySem.Spec PyProof.Rows L2

section
variable {W : Wd} {Wx : WX} {X : Cx} {pos p p2 tpos : Pos} {io kp : List Nat}
/-- for .. in .. -/
theorem ss_for {tg iter : Expr} {body : List Stmt} {t : Tg} {ei : Env → Out (List D)} {eb : Env → SO} (hp : PassesOwn (model X.prog X.w) X.A X.env X.xe) (g : GX W Wx X) (hi : PI X tg iter (tIt W Wx X.K ei)) (hg : PG X tg (tG W io t)) (hb : PSs X body (tS W Wx io eb)) (hs : ∀ x, foldedSetIterable iter X.env x = pure x) :
    PS X (.For tg iter body [] pos) (tS W Wx io fun ρ => SO.of (ei ρ) fun xs ρ => if t.free io then forGo t eb xs ρ else .bad) := by
  refine (ps_for hp g.calm hi hg hb hs).mono fun D σ H ⟨C, ρ, hf, rel, q⟩ => ⟨C, ρ, rel, ?_⟩
  cases eo : ei ρ with
  | bad => simp only [eo, SO.of] at q; exact q.elim
  | exc d ρ1 => simp only [eo, SO.of] at q; exact fun cls dx H' e rx r => q cls dx σ H' e rx r
  | ok xs ρ1 =>
    simp only [eo, SO.of] at q
    intro J H1 e1 r1 wk
    split at q
    · rename_i hfree
      refine ⟨fun i m σ' H' => m = xs.length - i ∧ i ≤ xs.length ∧ ∃ ρi, Ext H1 H' ∧ Rel W C ρi σ' H' ∧ wS W C Wx (forGo t eb (xs.drop i) ρi) D H', ⟨xs.length, by simp, Nat.zero_le _, ρ1, Ext.refl _, r1, by simpa using wS.mono e1 q⟩, ?_⟩
      rintro i m σ2 H2 ⟨rfl, hi, ρi, e2, r2, q2⟩
      by_cases hlt : i < xs.length
      · refine .inr ⟨wk.go i H2 e2 hlt, fun σ' H' => ∃ ρi, Ext H1 H' ∧ Rel W C ρi σ' H' ∧ wS W C Wx (forGo t eb (xs.drop (i + 1)) ρi) D H', fun σ' H' p' => ⟨xs.length - (i + 1), by omega, rfl, hlt, p'⟩, fun x H3 y => ?_⟩
        have hx : xs[i]? = some xs[i] := List.getElem?_eq_getElem hlt
        have rs := wk.yld i H2 x H3 xs[i] e2 hx y
        obtain ⟨e3, fp, ft, ow, r3⟩ := rs.rel r2
        obtain ⟨rx, rfl⟩ := own_fr ow
        rw [List.drop_eq_getElem_cons hlt] at q2
        simp only [forGo] at q2
        cases ha : asgTg t xs[i] ρi with
        | none => rw [ha] at q2; exact q2.elim
        | some ρa =>
          rw [ha] at q2
          simp only at q2
          refine ⟨C, ρi, xs[i], ρa, fp, [], hf, hfree, r3, rx, ha, fun σ4 fp4 r4 _ => ⟨C, ρa, hf, ⟨fp4, r4⟩, ?_⟩⟩
          have q3 := wS.mono e3 q2
          cases eb1 : eb ρa with
          | next ρb => rw [eb1] at q3; exact fun σ' H' e' r' => ⟨ρb, e2.trans (e3.trans e'), r', wS.mono e' q3⟩
          | cnt ρb => rw [eb1] at q3; exact fun σ' H' e' r' => ⟨ρb, e2.trans (e3.trans e'), r', wS.mono e' q3⟩
          | brk ρb => rw [eb1] at q3; exact fun σ' H' e' r' => q3 σ' H' e' r'
          | ret tt ρb => rw [eb1] at q3; exact q3
          | exc d ρb => rw [eb1] at q3; exact q3
          | bad => rw [eb1] at q3; exact q3
      · have ei' : i = xs.length := by omega
        subst ei'
        refine .inl ⟨wk.stop H2 e2, ?_⟩
        rw [List.drop_length] at q2
        exact q2 σ2 H2 (Ext.refl _) r2
    · exact q.elim
/-- while .. -/
theorem ss_while {test : Expr} {body : List Stmt} {ec : Env → Out Bool} {eb : Env → SO} {n : Nat} (hp : PassesOwn (model X.prog X.w) X.A X.env X.xe) (hc : PT X test (tTe W Wx ec)) (hb : PSs X body (tS W Wx io eb)) :
    PS X (.While test body [] pos) (tS W Wx io fun ρ => whileGo ec eb n ρ) := by
  refine (ps_while hp hc hb).mono fun D σ H ⟨C, ρ, hf, rel, q⟩ => ?_
  refine ⟨fun m σ' H' => ∃ ρi, Rel W C ρi σ' H' ∧ wS W C Wx (whileGo ec eb m ρi) D H', ⟨n, ρ, rel, q⟩, ?_⟩
  rintro m σ2 H2 ⟨ρi, r2, q2⟩
  cases m with
  | zero => exact q2.elim
  | succ m =>
    refine ⟨C, ρi, r2, ?_⟩
    simp only [whileGo] at q2
    cases ec1 : ec ρi with
    | bad => rw [ec1] at q2; exact q2.elim
    | exc d ρb => rw [ec1] at q2; exact fun cls dx H' e rx r => q2 cls dx σ2 H' e rx r
    | ok b ρb =>
      rw [ec1] at q2
      intro H3 e3 r3
      cases b with
      | false => exact q2 σ2 H3 e3 r3
      | true =>
        simp only [if_true]
        refine ⟨fun σ' H' => ∃ ρi, Rel W C ρi σ' H' ∧ wS W C Wx (whileGo ec eb m ρi) D H', fun σ' H' p' => ⟨m, Nat.lt_succ_self _, p'⟩, C, ρb, hf, r3, ?_⟩
        have q3 := wS.mono e3 q2
        simp only at q3
        cases eb1 : eb ρb with
        | next ρc => rw [eb1] at q3; exact fun σ' H' e' r' => ⟨ρc, r', wS.mono e' q3⟩
        | cnt ρc => rw [eb1] at q3; exact fun σ' H' e' r' => ⟨ρc, r', wS.mono e' q3⟩
        | brk ρc => rw [eb1] at q3; exact fun σ' H' e' r' => q3 σ' H' e' r'
        | ret tt ρc => rw [eb1] at q3; exact q3
        | exc d ρc => rw [eb1] at q3; exact q3
        | bad => rw [eb1] at q3; exact q3
end

/-! ### a def -/
section
variable {W : Wd}
def fixOf : Nat → Env → List V → List (Nat × V)
  | k, .own _ :: as, v :: vs => (k, v) :: fixOf (k + 1) as vs
  | k, _ :: as, _ :: vs => fixOf (k + 1) as vs
  | _, _, _ => []
theorem fixOf_at : ∀ {as : Env} {vs : List V} {k : Nat} {q : Nat × V}, q ∈ fixOf k as vs → k ≤ q.1 ∧ (∃ t, as[q.1 - k]? = some (.own t)) ∧ vs[q.1 - k]? = some q.2
  | [], _, _, _, m => by simp [fixOf] at m
  | s :: as, [], _, _, m => by cases s <;> simp [fixOf] at m
  | s :: as, v :: vs, k, q, m => by
    have rec_ : q ∈ fixOf (k + 1) as vs → k ≤ q.1 ∧ (∃ t, (s :: as)[q.1 - k]? = some (.own t)) ∧ (v :: vs)[q.1 - k]? = some q.2 := fun m => by
      obtain ⟨h1, ⟨t, h2⟩, h3⟩ := fixOf_at m
      have e : q.1 - k = (q.1 - (k + 1)) + 1 := by omega
      exact ⟨by omega, ⟨t, by rw [e]; simpa using h2⟩, by rw [e]; simpa using h3⟩
    cases s with
    | own t =>
      simp only [fixOf] at m
      rcases List.mem_cons.mp m with rfl | m
      · exact ⟨Nat.le_refl _, ⟨t, by simp⟩, by simp⟩
      · exact rec_ m
    | val d => simp only [fixOf] at m; exact rec_ m
    | unb => simp only [fixOf] at m; exact rec_ m
theorem fixOf_mem : ∀ {as : Env} {vs : List V} {k i : Nat} {t : T} {v : V}, as[i]? = some (.own t) → vs[i]? = some v → (k + i, v) ∈ fixOf k as vs
  | [], _, _, _, _, _, h, _ => by simp at h
  | _ :: _, [], _, _, _, _, _, h => by simp at h
  | s :: as, w :: vs, k, 0, t, v, h1, h2 => by simp at h1 h2; subst h1 h2; simp [fixOf]
  | s :: as, w :: vs, k, i + 1, t, v, h1, h2 => by
    have := fixOf_mem (k := k + 1) (i := i) (t := t) (v := v) (by simpa using h1) (by simpa using h2)
    have e : k + 1 + i = k + (i + 1) := by omega
    rw [e] at this
    cases s <;> simp [fixOf, this]
theorem ownsAt_mem : ∀ {as : Env} {k i : Nat} {t : T}, as[i]? = some (.own t) → k + i ∈ ownsAt k as
  | [], _, _, _, h => by simp at h
  | s :: as, k, 0, t, h => by simp at h; subst h; simp [ownsAt]
  | s :: as, k, i + 1, t, h => by
    have := ownsAt_mem (k := k + 1) (i := i) (t := t) (by simpa using h)
    have e : k + 1 + i = k + (i + 1) := by omega
    rw [e] at this
    cases s <;> simp [ownsAt, this]
theorem fin_sl {H H' : Hp} (e : Ext H H') : ∀ {as ρ : Env} {vs : List V} {σ : L2.St} {In fp : List Addr}, SlRs W H as (vs.map some) In → SlRs W H' ρ σ fp → (∀ (i : Nat) (t : T) (v : V), as[i]? = some (Sl.own t) → vs[i]? = some v → σ[i]? = some (some v)) → ∃ fs, SlRs W H' (finOf as ρ) (vs.map some) fs ∧ fs.Sublist fp
  | [], ρ, [], σ, _, fp, _, r, _ => ⟨[], by cases ρ <;> exact .nil, by simp⟩
  | [], ρ, _ :: _, σ, _, fp, h, _, _ => by cases h
  | s :: as, ρ, [], σ, _, fp, h, _, _ => by cases h
  | s :: as, ρ, v :: vs, σ, _, fp, .cons h hs, r, fx => by
    have tl : ∀ {ρ' : Env} {σ' : L2.St} {fp' : List Addr}, SlRs W H' ρ' σ' fp' → (∀ (i : Nat) (t : T) (v : V), as[i]? = some (Sl.own t) → vs[i]? = some v → σ'[i]? = some (some v)) → ∃ fs, SlRs W H' (finOf as ρ') (vs.map some) fs ∧ fs.Sublist fp' := fun r' f' => fin_sl e hs r' f'
    cases r with
    | nil =>
      cases s with
      | own t => have := fx 0 t v rfl rfl; simp at this
      | val d =>
        cases h with
        | val rp =>
          obtain ⟨fs, h1, h2⟩ := tl .nil fun i t w a b => by have := fx (i + 1) t w (by simpa using a) (by simpa using b); simp at this
          have ee : finOf as ([] : Env) = as := by cases as with | nil => rfl | cons a as => cases a <;> rfl
          rw [ee] at h1
          exact ⟨[] ++ fs, .cons (.val (rp.ext e)) h1, by simpa using h2⟩
      | unb =>
        obtain ⟨fs, h1, h2⟩ := tl .nil fun i t w a b => by have := fx (i + 1) t w (by simpa using a) (by simpa using b); simp at this
        have ee : finOf as ([] : Env) = as := by cases as with | nil => rfl | cons a as => cases a <;> rfl
        rw [ee] at h1
        exact ⟨[] ++ fs, .cons .unb h1, by simpa using h2⟩
    | @cons f o ρs σs gp gps hf hr =>
      obtain ⟨fs, h1, h2⟩ := tl hr fun i t w a b => by have := fx (i + 1) t w (by simpa using a) (by simpa using b); simpa using this
      cases s with
      | own t =>
        have := fx 0 t v rfl rfl
        simp at this; subst this
        exact ⟨gp ++ fs, .cons hf h1, List.Sublist.append (List.Sublist.refl _) h2⟩
      | val d =>
        cases h with
        | val rp => exact ⟨[] ++ fs, .cons (.val (rp.ext e)) h1, by simpa using h2.trans (List.sublist_append_right _ _)⟩
      | unb => exact ⟨[] ++ fs, .cons .unb h1, by simpa using h2.trans (List.sublist_append_right _ _)⟩
theorem SlRs.app {H : Hp} : ∀ {a b : Env} {s r : L2.St} {f g : List Addr}, SlRs W H a s f → SlRs W H b r g → SlRs W H (a ++ b) (s ++ r) (f ++ g)
  | _, _, _, _, _, _, .nil, h => h
  | _, _, _, _, _, _, .cons h t, q => by
    have := SlRs.cons h (SlRs.app t q)
    simpa using this
theorem SlRs.unbs {H : Hp} : ∀ n : Nat, SlRs W H (List.replicate n Sl.unb) (List.replicate n none) []
  | 0 => .nil
  | n + 1 => by
    have := SlRs.cons (W := W) (H := H) (s := .unb) (o := none) .unb (SlRs.unbs n)
    simpa [List.replicate_succ] using this
end
section
variable {W : Wd} {P : Program} {w : World} {mg : Str → Option Value} {base : Heap} {k : Nat} {f : Addr} {name qual : Str} {params : Arguments} {body : List Stmt} {scope : Scope} {dV kV doc pm cdv ct oc : Value} {an od : Option Addr} {osl : Array (Option Value)} {N ps : List Str}
/-- a def of the text keeps its promise -/
theorem fnE_of {S : Stat} {R : D → Option Str} {n : Nat} {F : Nat → Env → OutF} {fn : Fn} (lk : W.K.lookup f = some ⟨oc, od, .func (PySem.W.fnOf name qual params body scope dV kV doc pm an cdv ct), osl⟩) (hcd : PySem.W.codeIn W.K cdv qual = true) (FS : FnScope N ps scope) (hnp : fn.np = ps.length) (hnl : fn.nl = N.length)
    (hb : ∀ (A : Around) (outer : List PySem.Env) (s : Shared) (H : Hp) (E : XK) (io : List Nat), Room k A → A.guards = some [] →
      PSs (cxOf (CX P w) P w W.K mg base N qual scope f cdv A outer s H E) body (tS W (fun cls d _ H => E cls d H) io fun ρ => evSs S R F n io fn.kp fn.body ρ)) :
    FnE W P w mg base (k + 1) f (PySem.W.fnOf name qual params body scope dV kV doc pm an cdv ct) ps (evFn S R n F fn) := by
  refine ⟨fun args nb => ?_, fun A outer s H as us vs args In Q E hr hg e0 hbd r sl nd tabs hq => ?_⟩
  · unfold evFn at nb
    split at nb
    · rename_i h; rw [h, hnp]
    · exact absurd rfl nb
  have hlen : args.length = vs.length := by have := sl.length; simpa using this
  unfold evFn at hq
  have hna : args.length = fn.np := Classical.byContradiction fun h => by
    rw [if_neg h] at hq
    exact hq
  rw [if_pos hna] at hq
  have hl : vs.length = ps.length := by rw [← hlen, hna, hnp]
  have KX : W.K.In s.heap := e0.mod.kin.keeps fun b o e => (e0.bs b o e).1
  have lim : s.heap.NoLimit := e0.mod.nolimit.keeps fun b o e => (e0.bs b o e).1
  have hkind : ∀ y ∈ ps.zip us, scope.names.lookup y.1 = some .local ∨ (scope.names.lookup y.1 = some .cell ∧ ((cellsFrom (s.heap.objs.size + 1) scope.names []).lookup y.1).isSome = true) := by
    rintro ⟨nm, u⟩ my
    exact (FS.par nm (List.of_mem_zip my).1).imp_right fun q => ⟨q, PySem.W.cellsFrom_some _ _ _ (.inl q)⟩
  refine codeAny_call_function hr.depth (KX _ _ lk) rfl FS.co FS.gen rfl (PySem.W.codeRec_of KX hcd) (hbd _ _ _ _ (wpAny_newFunctionEnv_cells FS.kind hkind fun env he s1 ic => ?_))
  subst he
  refine ⟨lim.keeps ic.toInCall.keep, codeAny_func ?_⟩
  have I : Inv (cxOf (CX P w) P w W.K mg base N qual scope f cdv A outer s H E) [] (start N vs) H s1 := inv_start FS hr.hd e0 hl r ic
  let C : Fx := ⟨H, In, fixOf 0 args vs⟩
  have hpl : ps.length ≤ N.length := by have := congrArg List.length FS.pre; rw [List.length_take] at this; omega
  have sl0 : SlRs W H (args ++ List.replicate (fn.nl - fn.np) .unb) (start N vs) In := by
    unfold L2.start
    have := SlRs.app sl (SlRs.unbs (W := W) (H := H) (N.length - vs.length))
    rw [hnl, hnp, ← hl]
    simpa using this
  have hfix : ∀ p ∈ C.fix, (start N vs)[p.1]? = some (some p.2) := fun p m => by
    obtain ⟨_, _, h3⟩ := fixOf_at m
    rw [Nat.sub_zero] at h3
    unfold L2.start
    have hlt : p.1 < (vs.map some).length := by
      rw [List.length_map]
      exact (List.getElem?_eq_some_iff.mp h3).1
    rw [List.getElem?_append_left hlt, List.getElem?_map, h3]; rfl
  have rel : Rel W C (args ++ List.replicate (fn.nl - fn.np) .unb) (start N vs) H := ⟨In, sl0, by simpa using nd, fun a m => .inl (by simpa using m), fun _ _ e _ _ => e, fun _ e => e, hfix, tabs⟩
  have hfi : FixIn C (ownsAt 0 args) := fun p m => by
    obtain ⟨_, ⟨t, h2⟩, _⟩ := fixOf_at m
    rw [Nat.sub_zero] at h2
    have := ownsAt_mem (k := 0) h2
    simpa using this
  have post : ∀ {ρ' : Env} {σ' : L2.St} {H' : Hp} {fp ft : List Addr}, Ext H H' → RelP W C ρ' σ' H' fp ft → PostC W vs H In H' (finOf args ρ') ft := fun {ρ' σ' H' fp ft} e' r' => by
    obtain ⟨fs, h1, h2⟩ := fin_sl e' sl r'.slots fun i t v a b => by
      have := r'.fix (0 + i, v) (fixOf_mem (k := 0) a b)
      simpa using this
    obtain ⟨n1, n2, n3⟩ := List.nodup_append.mp r'.nd
    refine ⟨e', r'.frame, r'.dom, r'.tabs, fs, h1, List.nodup_append.mpr ⟨n1.sublist h2, n2, fun a m b m' => n3 a (h2.subset m) b m'⟩, fun a m => ?_⟩
    rcases List.mem_append.mp m with m | m
    · exact r'.own a (by simp [h2.subset m])
    · exact r'.own a (by simp [m])
  refine wpAny_mono ((hb A outer s H E (ownsAt 0 args) (hr.mono (Nat.le_succ _)) hg).run [] s1 (start N vs) H { nx := fun _ H' => Q .non H', rt := Q } I ⟨C, _, hfi, rel, ?_⟩) (fun fl s' hs => ?_) fun e s' hs => hs
  · show wS W C (fun cls d _ H => E cls d H) (evSs S R F n (ownsAt 0 args) fn.kp fn.body (args ++ List.replicate (fn.nl - fn.np) .unb)) _ H
    cases ev : evSs S R F n (ownsAt 0 args) fn.kp fn.body (args ++ List.replicate (fn.nl - fn.np) .unb) with
    | bad => rw [ev] at hq; exact hq.elim
    | brk ρ' => rw [ev] at hq; exact hq.elim
    | cnt ρ' => rw [ev] at hq; exact hq.elim
    | next ρ' =>
      rw [ev] at hq
      exact fun σ' H' e' ⟨fp, r'⟩ => hq .non H' [] (.fr .non) (post e' r')
    | ret t ρ' =>
      rw [ev] at hq
      exact fun v σ' H' e' ⟨fp, ft, ow, r'⟩ => hq v H' ft ow (post e' r')
    | exc d ρ' =>
      rw [ev] at hq
      exact fun cls dx σ' H' e' rx ⟨fp, r'⟩ => hq cls dx H' rx (post e' r')
  · have done : ∀ {σ' : L2.St} {H' : Hp} {v : V} {u : Value}, Inv (cxOf (CX P w) P w W.K mg base N qual scope f cdv A outer s H E) [] σ' H' s' → RelV v u → Q v H' → CE outer P w H s Q u s' :=
      fun {σ' H' v u} J rv q => ⟨v, H', J.os, J.bare, J.base, J.hok, rv, q⟩
    cases fl with
    | next => obtain ⟨σ', H', J, q⟩ := hs; exact done (v := V.non) (u := Value.none) J rfl q
    | ret u => obtain ⟨v, σ', H', J, rv, q⟩ := hs; exact done J rv q
    | brk => obtain ⟨_, _, _, q⟩ := hs; exact q.elim
    | cont => obtain ⟨_, _, _, q⟩ := hs; exact q.elim
end
end Eg
set_option Elab.async false
set_option linter.all false
set_option maxRecDepth 100000
set_option maxHeartbeats 4000000
/-! the engine: a law's end -/
namespace Eg
open PySem PySem.Spec PyProof.Rows L2

section
variable {W : Wd} {P : Program} {w : World} {mg mb : Str → Option Value} {k : Nat} {fa a : Addr} {fd : FuncData} {x : Str} {fl : Env → OutF} {s1 : Shared} {vs : List Value} {ns : List Int}
theorem reps_ints {H : Hp} : ∀ ns : List Int, Reps W H (ns.map D.int) (ns.map V.int)
  | [] => .nil
  | n :: r => .cons (.int n) (reps_ints r)
/-- the script alone is tracked, or nothing -/
theorem law_heap {H : Hp} (KX : W.K.In s1.heap) (hT : W.T = []) (hns : s1.heap.Ns mainGlobals mg) (hb : s1.heap.Ns builtinsNs mb) (hbb : ∀ x : Str, x ≠ "__name__" → mb x = bootBuiltins x) (hlim : s1.heap.NoLimit) (hg : s1.gens = #[])
    (hr : Room k callerA) (F : ∀ base : Heap, W.K.In base → base.Ns mainGlobals mg → FnE W P w mg base k fa fd [x] fl) (hbind : ∀ (s : Shared) (u : Value), BindsTo s fd ⟨[u], []⟩ [(x, u)]) (hv : ∃ fin, fl [.val (.lst (ns.map .int))] = .ret (.fr (.bl true)) fin)
    (hobj : s1.heap.get? a = some { cls := .type "list", data := .seq vs.toArray }) (sq : SqF W.K H a (ns.map V.int)) (hok : HOk P w H s1.heap) (one : ∀ b, H b ≠ none → b = a ∧ W.K.lookup a = none ∧ ∃ o u, H b = some (.frz o u)) :
    codeAny (model P w) callerA (.call (.ref fa) ⟨[.ref a], []⟩) (fun r s' => r = .ok (.ret (.bool true)) ∧ OldK s1.heap s'.heap ∧ s'.os = s1.os ∧ AllBare s'.gens) s1 := by
  have free : ∀ {b : Addr} {o : Obj}, s1.heap.get? b = some o → b ≠ a → H b = none := fun {b o} _ ne => Classical.byContradiction fun z => ne (one b z).1
  have dictF : ∀ {b : Addr} {o : Obj} {es : Array DictEntry} {ep : Nat}, s1.heap.get? b = some o → o.data = .dict es ep → H b = none := fun {b o es ep} e d => free e fun z => by
    rw [z, hobj] at e
    cases e; cases d
  have up : ∀ {b : Addr} {m : Str → Option Value}, s1.heap.Ns b m → (hidT s1.heap H).Ns b m := fun {b m} q => by
    obtain ⟨o, es, ep, e, d, r⟩ := q
    exact ⟨o, es, ep, hidT_get e (dictF e d), d, r⟩
  have kin : W.K.In (hidT s1.heap H) := fun b o e => hidT_get (KX b o e) <| Classical.byContradiction fun z => by
    obtain ⟨ez, ek, _⟩ := one b z
    rw [ez, ek] at e; cases e
  obtain ⟨mc, c1, c2⟩ := hlim
  have mod : Mod W.K mg (hidT s1.heap H) := ⟨kin, up hns, ⟨mb, up hb, hbb⟩, mc, up c1, c2⟩
  have env0 : Env0 P w W.K mg (hidT s1.heap H) callerA [] s1 H := ⟨rfl, mod, fun _ _ e => of_hidT e, Nat.le_of_eq (hidT_size _ _), trivial, fun _ m => absurd (show _ ∈ ([] : List Addr) from m) (by simp), hok, .of_eq hg⟩
  obtain ⟨fin, efl⟩ := hv
  have sl : SlRs W H [.val (.lst (ns.map .int))] ([V.ref a].map some) [] := .cons (.val (.lst sq (reps_ints ns))) .nil
  have want : wF W [.ref a] H [] (fl [.val (.lst (ns.map .int))]) (fun v _ => v = .bl true) (fun _ _ _ => False) := by
    rw [efl]
    intro v H' ft ow _
    obtain ⟨rp, _⟩ := own_fr ow
    cases rp; rfl
  refine codeAny_mono ((F _ kin (up hns)).run callerA [] s1 H ⟨[.ref a], []⟩ [.ref a] [.ref a] _ [] _ _ hr rfl env0 (hbind s1 (.ref a)) (.cons rfl .nil) sl (by simp) (by rw [hT]; exact fun _ m => nomatch m) want) fun r s' h => ?_
  cases r with
  | error e =>
    obtain ⟨_, _, _, _, _, _, _, _, _, _, _, _, z⟩ := h
    exact z.elim
  | ok f =>
    cases f with
    | ret u =>
      obtain ⟨v, H', eos, bare, un, hok', rv, ev⟩ := h
      have ev : v = .bl true := ev
      subst ev
      cases (show u = Value.bool true from rv)
      refine ⟨rfl, OldK.of_keep fun b o e => ?_, eos, bare⟩
      by_cases hz : H b = none
      · exact un.keep b o e hz (fun z => absurd (show b ∈ ([] : List Addr) from z) (by simp)) (by simp)
      · obtain ⟨_, _, ob, uu, ez⟩ := one b hz
        have e1 := (hok b _ ez).1
        have e2 := (hok' b _ (un.frzs b ob uu ez)).1
        rw [e] at e1; cases e1
        exact e2
    | next => exact h.elim
    | brk => exact h.elim
    | cont => exact h.elim
theorem law_callE (KX : W.K.In s1.heap) (hT : W.T = []) (hns : s1.heap.Ns mainGlobals mg) (hb : s1.heap.Ns builtinsNs mb) (hbb : ∀ x : Str, x ≠ "__name__" → mb x = bootBuiltins x) (hlim : s1.heap.NoLimit) (hg : s1.gens = #[])
    (hobj : s1.heap.get? a = some { cls := .type "list", data := .seq vs.toArray }) (hi : IntsAre vs ns) (hl : ns.length ≤ sizeLine) (hr : Room k callerA) (F : ∀ base : Heap, W.K.In base → base.Ns mainGlobals mg → FnE W P w mg base k fa fd [x] fl)
    (hbind : ∀ (s : Shared) (u : Value), BindsTo s fd ⟨[u], []⟩ [(x, u)]) (hv : ∃ fin, fl [.val (.lst (ns.map .int))] = .ret (.fr (.bl true)) fin) :
    codeAny (model P w) callerA (.call (.ref fa) ⟨[.ref a], []⟩) (fun r s' => r = .ok (.ret (.bool true)) ∧ OldK s1.heap s'.heap ∧ s'.os = s1.os ∧ AllBare s'.gens) s1 := by
  have rv := vals_ints hi
  have len := hi.length
  cases hk : W.K.lookup a with
  | some o =>
    have e := KX a o hk
    rw [hobj] at e; cases e
    exact law_heap (H := fun _ => none) KX hT hns hb hbb hlim hg hr F hbind hv hobj (.inr ⟨_, vs.toArray, _, hk, rfl, rfl, rfl, by rw [List.size_toArray, len]; exact hl, by simpa using rv⟩) (fun b u z => by cases (show (none : Option HO) = some u from z)) fun b z => absurd rfl z
  | none =>
    have hat : upd (fun _ => none) a (HO.frz { cls := .type "list", data := .seq vs.toArray } (.lst (ns.map V.int))) a = some (.frz { cls := .type "list", data := .seq vs.toArray } (.lst (ns.map V.int))) := upd_same
    refine law_heap (H := upd (fun _ => none) a (.frz { cls := .type "list", data := .seq vs.toArray } (.lst (ns.map V.int)))) KX hT hns hb hbb hlim hg hr F hbind hv hobj (.inl ⟨_, hat⟩) (fun b u z => ?_) fun b z => ?_
    · by_cases hz : b = a
      · subst hz
        rw [upd_same] at z; cases z
        exact ⟨hobj, by rw [List.length_map]; exact hl, vs, _, rv, hobj⟩
      · rw [upd_ne hz] at z; cases z
    · by_cases hz : b = a
      · subst hz
        exact ⟨rfl, hk, _, _, upd_same⟩
      · rw [upd_ne hz] at z; exact absurd rfl z
end
section
variable {l : PySem.W.OpenLaw} {n k : Nat} {q : Program} {loose : List Str} {XP : (Str → Option Value) → Heap → Prop} {YP : World → Heap → Prop} {d : DefRec} {x : Str}
/-- the law walked: what is wanted of the written part, and the value that the evaluator tells -/
theorem walk_ofEg (hn : l.most = some n) (hn2 : n ≤ sizeLine) (hdf : d.params.defaults = []) (hr : Room k callerA)
    (F : ∀ (w : World) (mg : Str → Option Value) (fa : Addr) (h : Heap), YP w h → h.Ns mainGlobals mg → mg d.name = some (.ref fa) →
      ∃ (W : Wd) (fd : FuncData) (fl : Env → OutF), W.K.In h ∧ W.T = [] ∧ (∀ (s : Shared) (u : Value), BindsTo s fd ⟨[u], []⟩ [(x, u)]) ∧ (∀ ns : List Int, ns.length ≤ n → ∃ fin, fl [.val (.lst (ns.map .int))] = .ret (.fr (.bl true)) fin) ∧
        ∀ base : Heap, W.K.In base → base.Ns mainGlobals mg → FnE W l.prog w mg base k fa fd [x] fl) :
    PySem.W.WalkO q loose XP YP l.row.toRowW d [] (fun f vs => PySem.call f vs) := by
  refine Att.attach_call hn hdf fun w s0 s1 mg mb fa o pm cd doc a vs ns G Y ho hd hcd hmg hobj hints hlen hg => ?_
  obtain ⟨W, fd, fl, KX, hT, hb, hv, hF⟩ := F w mg fa _ Y G.T.g hmg
  exact law_callE KX hT G.T.g G.T.b G.T.builtins G.T.nolimit hg hobj hints (Nat.le_trans hlen hn2) hr hF hb (hv ns hlen)
end
end Eg
set_option Elab.async false
set_option linter.all false
set_option maxRecDepth 100000
set_option maxHeartbeats 4000000
/-! the engine: chains, displays with stars, texts' methods, turned about -/
namespace Eg
open PySem PySem.Spec PyProof.Rows L2
section
variable {W : Wd} {Wx : WX} {X : Cx} {pos p p2 : Pos} {a b c : Expr} {ea eb ec : Env → Out D}
theorem RelT.blI {C : Fx} {ρ : Env} {σ : L2.St} {H : Hp} {k : Bool} {v : V} (h : RelT W C ρ σ H (.fr (.bl k)) v) : v = .bl k := by
  obtain ⟨fp, ft, ow, rp⟩ := h
  obtain ⟨r, _⟩ := own_fr ow
  cases r; rfl
def chainO (op op' : CmpOp) (x y : D) (ec : Env → Out D) (ρ : Env) : Out T := match cmpD op x y with
  | some true => (ec ρ).bind fun z ρ => Out.of ρ ((cmpD op' y z).map fun b => .fr (.bl b))
  | some false => .ok (.fr (.bl false)) ρ
  | none => .bad
theorem chain_way {op op' : CmpOp} (g : GX W Wx X) {σ : L2.St} {H : Hp} {Q : VK} (h : tE W Wx (fun ρ => (ea ρ).bind fun x ρ => (eb ρ).bind fun y ρ => chainO op op' x y ec ρ) σ H Q) :
    tChain (fun v w H Q => ∃ x y t, WRep W H x v ∧ WRep W H y w ∧ (cmpD op x y).map (fun b => T.fr (.bl b)) = some t ∧ ∀ u H', ResT W H t u H' → Q u H')
      (fun v w H Q => ∃ x y t, WRep W H x v ∧ WRep W H y w ∧ (cmpD op' x y).map (fun b => T.fr (.bl b)) = some t ∧ ∀ u H', ResT W H t u H' → Q u H') (tD W Wx ea) (tD W Wx eb) (tD W Wx ec) σ H Q := by
  obtain ⟨C, ρ, rel, q⟩ := h
  refine ⟨C, ρ, rel, ?_⟩
  refine wD_bind wE_x wE_b wE_m q fun x ρ1 v H1 e1 r1 p1 q1 => ⟨C, ρ1, r1, ?_⟩
  refine wD_bind wE_x wE_b wE_m q1 fun y ρ2 w H2 e2 r2 p2 q2 => ?_
  unfold chainO at q2
  cases eo : cmpD op x y with
  | none => rw [eo] at q2; exact q2.elim
  | some k =>
    rw [eo] at q2
    refine ⟨x, y, .fr (.bl k), .rep (p1.ext e2), .rep p2, by rw [eo]; rfl, fun u H3 rs => ?_⟩
    obtain ⟨k1, k2⟩ := rs.rel r2
    refine ⟨k, k2.blI, ?_⟩
    cases k with
    | false => exact q2 _ H3 k1 (k2.blI ▸ k2)
    | true =>
      refine ⟨C, ρ2, k2.rel, ?_⟩
      refine wD_bind wE_x wE_b wE_m (wE.mono k1 q2) fun z ρ3 w' H4 e4 r4 p4 q4 => ?_
      cases eo' : cmpD op' y z with
      | none => rw [eo'] at q4; exact q4.elim
      | some k' =>
        rw [eo'] at q4
        exact ⟨y, z, .fr (.bl k'), .rep ((p2.ext k1).ext e4), .rep p4, by rw [eo']; rfl, fun u H3 rs => let ⟨k1, k2⟩ := rs.rel r4; q4 u H3 k1 k2⟩
theorem sb_chain {op op' : CmpOp} (g : GX W Wx X) (hm : lastMarks [op, op'] [b, c] = false) (ha : PE X a (tD W Wx ea)) (hb : PE X b (tD W Wx eb)) (hc : PE X c (tD W Wx ec)) :
    PE X (.Compare a [op, op'] [b, c] pos) (tE W Wx fun ρ => (ea ρ).bind fun x ρ => (eb ρ).bind fun y ρ => chainO op op' x y ec ρ) :=
  (pe_chain (cmp_all g.hK g.hu op) (cmp_all g.hK g.hu op') ha hb hc hm).mono fun σ H Q h => chain_way g h
theorem lastM {op op' : CmpOp} (h : ∀ elts k p, c ≠ .Set elts k p) (h' : ∀ elts k p, b ≠ .Set elts k p) : lastMarks [op, op'] [b, c] = false := by
  cases c <;> first | rfl | exact absurd rfl (h _ _ _)
/-- .. as a test -/
theorem sb_chainT {op op' : CmpOp} (g : GX W Wx X) (hm : lastMarks [op, op'] [b, c] = false) (ha : PE X a (tD W Wx ea)) (hb : PE X b (tD W Wx eb)) (hc : PE X c (tD W Wx ec)) :
    PT X (.Compare a [op, op'] [b, c] pos) (tTe W Wx fun ρ => (freezeO ((ea ρ).bind fun x ρ => (eb ρ).bind fun y ρ => chainO op op' x y ec ρ)).bind fun x ρ => Out.of ρ x.truth) := by
  refine (pt_chain (cmp_all g.hK g.hu op) (cmp_all g.hK g.hu op') ha hb hc hm).mono fun σ H Q ⟨C, ρ, rel, q⟩ => ?_
  refine chain_way (σ := σ) (H := H) (Q := fun z H3 => ∃ k, z = V.bl k ∧ Q k H3) g ⟨C, ρ, rel, ?_⟩
  replace q : wT W C Wx ((freezeO ((ea ρ).bind fun x ρ => (eb ρ).bind fun y ρ => chainO op op' x y ec ρ)).bind fun x ρ => Out.of ρ x.truth) σ H Q := q
  show wE W C Wx ((ea ρ).bind fun x ρ => (eb ρ).bind fun y ρ => chainO op op' x y ec ρ) σ H _
  revert q
  generalize eo : ((ea ρ).bind fun x ρ => (eb ρ).bind fun y ρ => chainO op op' x y ec ρ) = o
  intro q
  have hbl : ∀ t ρ', o = .ok t ρ' → ∃ k, t = .fr (.bl k) := by
    intro t ρ' e
    subst e
    cases e1 : ea ρ with
    | bad => rw [e1] at eo; cases eo
    | exc d ρ1 => rw [e1] at eo; cases eo
    | ok x ρ1 =>
      rw [e1] at eo
      simp only [Out.bind] at eo
      cases e2 : eb ρ1 with
      | bad => rw [e2] at eo; cases eo
      | exc d ρ1 => rw [e2] at eo; cases eo
      | ok y ρ2 =>
        rw [e2] at eo
        simp only [chainO] at eo
        split at eo
        · cases e3 : ec ρ2 with
          | bad => rw [e3] at eo; cases eo
          | exc d ρ1 => rw [e3] at eo; cases eo
          | ok z ρ3 =>
            rw [e3] at eo
            simp only [Out.bind] at eo
            cases e4 : cmpD op' y z with
            | none => rw [e4] at eo; cases eo
            | some k => rw [e4] at eo; cases eo; exact ⟨k, rfl⟩
        · cases eo; exact ⟨_, rfl⟩
        · cases eo
  cases o with
  | bad => exact q
  | exc d ρ1 => exact q
  | ok t ρ1 =>
    obtain ⟨k, rfl⟩ := hbl _ _ rfl
    simp only [freezeO, T.toD, Out.bind, D.truth, Out.of] at q
    intro v H1 e1 r1
    exact ⟨k, r1.blI, q H1 e1 r1.rel⟩

/-! ### displays with stars -/
variable {es : List Expr} {er : Env → Out (List D)}
theorem sb_star {sp : Pos} (g : GX W Wx X) (ha : PE X a (tD W Wx ea)) (hr : PA X es (tDs W Wx er)) :
    PA X (.Starred a sp :: es) (tDs W Wx fun ρ => (ea ρ).bind fun x ρ => match x.items with
      | some xs => (er ρ).bind fun ds ρ => .ok (xs ++ ds) ρ
      | none => .bad) := by
  refine (StX.pa_star ha hr).mono fun σ H Q ⟨C, ρ, rel, q⟩ => ⟨C, ρ, rel, ?_⟩
  refine wD_bind wDs_x wDs_b wDs_m q fun x ρ1 v H1 e1 r1 p1 q1 => ?_
  have fin : ∀ {xs : List D} {a : Addr} {vs : List V}, v = .ref a → (SqT X.K H1 a vs ∨ SqL X.K H1 a vs) → Reps W H1 xs vs → wDs W C Wx ((er ρ1).bind fun ds ρ => .ok (xs ++ ds) ρ) σ H1 Q →
      ∃ a vs, v = .ref a ∧ (SqT X.K H1 a vs ∨ SqL X.K H1 a vs) ∧ tDs W Wx er σ H1 (fun ws H2 => Q (vs ++ ws) H2) := fun {xs a vs} ev hs rs q2 => by
    refine ⟨a, vs, ev, hs, C, ρ1, r1, ?_⟩
    exact wDs_bind wDs_x wDs_b wDs_m q2 fun ds ρ2 ws H2 e2 r2 p2 q3 => q3 (vs ++ ws) H2 (Ext.refl _) r2 ((rs.ext e2).append p2)
  cases x with
  | tup xs =>
    obtain ⟨a, vs, rfl, ha, ra⟩ := (WRep.rep p1).tupI
    exact fin rfl (.inl (g.hK ▸ ha)) ra q1
  | lst xs =>
    obtain ⟨a, vs, rfl, ha, ra⟩ := (WRep.rep p1).lstI
    exact fin rfl (.inr (g.hK ▸ ha)) ra q1
  | _ => exact q1.elim

/-! ### methods of texts, tuples, lists, dicts -/
/-- a method of a built-in type, which one told by what it is asked of -/
structure TyR (X : Cx) (Tn : String) (x : V) (H : Hp) : Prop where
  is : ∀ {pins : List (Addr × Obj)} {σ : L2.St} {s : Shared} {u : Value}, Inv X pins σ H s → RelV x u → s.TypeIs u Tn ∧ ∀ a, u = .ref a → ∃ ob, s.heap.get? a = some ob ∧ ob.dict = none
def tBX (X : Cx) (name : Str) (to : TE) (t : TA) : TE := fun σ H Q => to σ H fun x H1 => ∃ (Tn id : String) (r : V → List V → Hp → VK → Prop), PlainAttrs Tn ∧ Slot Tn name id ∧ typeOf (.builtin id) = pure (.type "method_descriptor") ∧ MtR X id r ∧ TyR X Tn x H1 ∧ t σ H1 fun xs H2 => r x xs H2 Q
theorem pe_bx {o e : Expr} {to : TE} {t : TA} {name : Str} {apos cpos : Pos} (ho : PE X o to) (ha : PA X (e :: es) t)
    (hbase : attributeBase o name X.env (eval o X.env) = eval o X.env)
    (hfew : ((backTo cpos (starEach (e :: es) X.env)).all (fun x => !x.1) && (backToKw cpos (keywordEach [] X.env)).all (fun x => x.1.isSome)
      && decide ((e :: es).length + ([] : List Keyword).length + (if ([] : List Keyword).isEmpty then 0 else 1) < 30)) = true)
    (hline : (apos.endLine == cpos.line) = true) (hs : starEach (e :: es) X.env = (false, eval e X.env) :: starEach es X.env) (hplain : (backTo cpos (starEach es X.env)).any (·.1) = false) :
    PE X (.Call (.Attribute o name apos) (e :: es) [] cpos) (tBX X name to t) := by
  refine ⟨fun pins s σ H Q I h => wpAny_Call_method_late hbase hfew hline rfl (thn (ho.run pins s σ H _ I h) ?_)⟩
  rintro v s1 ⟨x, H1, I1, r1, Tn, id, r, pa, slot, hty, hm, ty, q1⟩
  obtain ⟨h1, h2⟩ := ty.is I1 r1
  refine ⟨Tn, id, pa, slot, hty, h1, h2, ?_⟩
  have hA := ha.run cpos pins s1 σ H1 _ I1 q1
  rw [hs] at hA ⊢
  refine Calls.callWith_builtin (by show (false || (backTo cpos (starEach es X.env)).any (·.1)) = false; rw [hplain]; rfl) (Calls.evalArgs_plain (thn hA ?_))
  rintro us s2 ⟨vs, H2, I2, r2, q2⟩
  exact hm pins s2 σ H2 x vs v us Q I2 r1 r2 q2
/-- the methods' names -/
def mName : Bi → Str
  | .split => "split"
  | .join => "join"
  | .index => "index"
  | .get => "get"
  | _ => ""
theorem strsD_V {H : Hp} : ∀ {ds : List D} {ys : List Str} {vs : List V}, strsD ds = some ys → Reps W H ds vs → vs = ys.map V.str
  | [], ys, _, e, .nil => by cases e; rfl
  | d :: ds, ys, _, e, .cons h r => by
    cases d <;> simp only [strsD, reduceCtorEq] at e
    obtain ⟨ys', e1, rfl⟩ := Option.map_eq_some_iff.mp e
    cases h
    rw [strsD_V e1 r]; rfl
theorem strIx_at {z : Str} : ∀ {ys : List Str} {j : Nat}, strIx z ys = some j → ys[j]? = some z ∧ ∀ m, m < j → ys[m]? ≠ some z
  | [], _, e => by cases e
  | y :: ys, j, e => by
    unfold strIx at e
    split at e
    · rename_i h; cases e; subst h; exact ⟨rfl, fun m hm => absurd hm (Nat.not_lt_zero _)⟩
    · rename_i h
      obtain ⟨k, e1, rfl⟩ := Option.map_eq_some_iff.mp e
      obtain ⟨h1, h2⟩ := strIx_at e1
      refine ⟨by simpa using h1, fun m hm => ?_⟩
      cases m with
      | zero => simpa using h
      | succ m => simpa using h2 m (by omega)
theorem eqV_str {a b : Str} : eqV (.str a) (.str b) = (a == b) := rfl
theorem ty_str {z : Str} {H : Hp} : TyR X "str" (.str z) H := ⟨fun {pins σ s u} I r => by
  obtain ⟨t, rfl⟩ := r
  exact ⟨typeIs_str s z t, fun _ e => nomatch e⟩⟩
theorem ty_lst {a : Addr} {xs : List V} {H : Hp} (h : SqL X.K H a xs) : TyR X "list" (.ref a) H := ⟨fun {pins σ s u} I r => by
  cases (show u = Value.ref a from r)
  obtain ⟨its, _, ⟨o, n, h1, h2, h3, h4⟩, _⟩ := I.list h
  exact ⟨⟨o, h1, h2⟩, fun b e => by cases e; exact ⟨o, h1, h3⟩⟩⟩
theorem ty_tup {a : Addr} {xs : List V} {H : Hp} (h : SqN X.K H a xs) : TyR X "tuple" (.ref a) H := ⟨fun {pins σ s u} I r => by
  cases (show u = Value.ref a from r)
  rcases h with ⟨o, h, hd⟩ | ⟨o, its, n, h1, h2, h3, _⟩
  · obtain ⟨g, _, its, _, o', g', c, _⟩ := I.hok _ _ h
    rw [g] at g'; cases g'
    exact ⟨⟨o, g, c⟩, fun b e => by cases e; exact ⟨o, g, hd⟩⟩
  · have g := I.kIn _ _ h1
    exact ⟨⟨o, g, h2⟩, fun b e => by cases e; exact ⟨o, g, h3⟩⟩⟩
theorem ty_dic {a : Addr} {kvs : List (Key × V)} {H : Hp} (h : Rd H a (.dK kvs)) : TyR X "dict" (.ref a) H := ⟨fun {pins σ s u} I r => by
  cases (show u = Value.ref a from r)
  have g : DGet H a (kV (.inl 0)) (valV kvs (.inl 0)) := .inl ⟨kvs, .inl 0, h, rfl, rfl⟩
  exact ⟨dict_typeIs I g, dict_noDict I g⟩⟩
/-- the method's rule on data: the receiver told, then the others -/
def MRule (W : Wd) (X : Cx) (b : Bi) (x : D) (v : V) (H1 : Hp) (n : Nat) : Prop := ∃ (Tn id : String) (r : V → List V → Hp → VK → Prop), PlainAttrs Tn ∧ Slot Tn (mName b) id ∧ typeOf (.builtin id) = pure (.type "method_descriptor") ∧ MtR X id r ∧ TyR X Tn v H1 ∧
  ∀ (ds : List D) (vs : List V) (H2 : Hp) (t : T) (Q : VK), Ext H1 H2 → Reps W H2 ds vs → ds.length = n → biD reprD b (x :: ds) = some t → (∀ u H', ResT W H2 t u H' → Q u H') → r v vs H2 Q
theorem reps1 {H : Hp} {x : D} {vs : List V} (h : Reps W H [x] vs) : ∃ v, vs = [v] ∧ Rep W H x v := by
  cases h with
  | cons h r => cases r; exact ⟨_, rfl, h⟩
theorem reps2 {H : Hp} {x y : D} {vs : List V} (h : Reps W H [x, y] vs) : ∃ v w, vs = [v, w] ∧ Rep W H x v ∧ Rep W H y w := by
  cases h with
  | cons h r => cases r with
    | cons h2 r => cases r; exact ⟨_, _, rfl, h, h2⟩
theorem lst_strs {ss : List Str} : (ss.map fun s => T.fr (.str s)) = (ss.map D.str).map T.fr := by simp
theorem reps_strs {H : Hp} : ∀ {ss : List Str}, Reps W H (ss.map D.str) (ss.map V.str)
  | [] => .nil
  | s :: ss => .cons (.str s) reps_strs
theorem zip_none {k : Key} : ∀ {ks : List Key} {xs : List D} {vs : List V}, ks.length = vs.length → ks.length = xs.length → keyAt ks xs k = none → valV (ks.zip vs) k = none
  | [], _, _, _, _, _ => rfl
  | _ :: _, _, [], h, _, _ => by simp at h
  | _ :: _, [], _, _, h, _ => by simp at h
  | j :: ks, x :: xs, v :: vs, h1, h2, e => by
    unfold keyAt at e
    split at e
    · cases e
    · rename_i z
      simp only [List.zip_cons_cons]
      rw [valV_neg z]
      exact zip_none (by simpa using h1) (by simpa using h2) e
theorem mt_get2 (hu : X.A.units + 300 < cLine) : MtR X "dict.get" (fun x xs H Q => ∃ a y z o, x = .ref a ∧ xs = [y, z] ∧ DGet H a y o ∧ Q (o.getD z) H) := by
  intro pins s σ H x xs v us Q I rx rs ⟨a, y, z, o, ex, es, g, q⟩
  subst ex es
  cases (show v = Value.ref a from rx)
  cases rs with
  | cons r1 r => cases r with
    | cons r2 r => cases r; exact d_get2 (by omega) I g r1 r2 fun w' s' I' rw' => ⟨_, H, I', rw', q⟩
theorem m_rule (hK : X.K = W.K) (hu : X.A.units + 300 < cLine) {b : Bi} {x : D} {v : V} {H1 : Hp} (n : Nat) (hn : n = 1 ∧ b ≠ .get ∨ n = 2 ∧ b = .get) (h : Rep W H1 x v) (ok : recvOk b x = true) : MRule W X b x v H1 n := by
  cases b <;> simp only [recvOk, Bool.false_eq_true] at ok
  · -- split
    have n1 : n = 1 := hn.elim (fun h => h.1) fun h => absurd h.2 (by decide)
    cases x <;> simp only [Bool.false_eq_true] at ok
    rename_i z
    cases h
    refine ⟨"str", _, _, F.plainAttrs_str, F.slot_str_split, F.type_str_split, mt_split, ty_str, fun ds vs H2 t Q e r l eb q => ?_⟩
    obtain ⟨y, rfl⟩ : ∃ y, ds = [y] := List.length_eq_one_iff.mp (l.trans n1)
    obtain ⟨w, rfl, rw'⟩ := reps1 r
    cases y <;> simp only [biD, reduceCtorEq] at eb
    split at eb
    · rename_i hc
      simp only [Bool.and_eq_true, decide_eq_true_eq] at hc
      cases eb; cases rw'
      refine ⟨_, _, rfl, rfl, by simpa using hc.1, hc.2, fun p hp => q _ _ ?_⟩
      rw [lst_strs]
      exact .newLst hp reps_strs
    · cases eb
  · -- join
    have n1 : n = 1 := hn.elim (fun h => h.1) fun h => absurd h.2 (by decide)
    cases x <;> simp only [Bool.false_eq_true] at ok
    rename_i z
    cases h
    refine ⟨"str", _, _, F.plainAttrs_str, F.slot_str_join, F.type_str_join, mt_join, ty_str, fun ds vs H2 t Q e r l eb q => ?_⟩
    obtain ⟨y, rfl⟩ : ∃ y, ds = [y] := List.length_eq_one_iff.mp (l.trans n1)
    obtain ⟨w, rfl, rw'⟩ := reps1 r
    have fin : ∀ {ds : List D} {a : Addr} {vs : List V} {ys : List Str}, strsD ds = some ys → w = .ref a → (SqL X.K H2 a vs ∨ SqT X.K H2 a vs) → Reps W H2 ds vs → (if joinOk z ys = true then some (T.fr (.str (Txt.join z ys))) else none) = some t →
        ∃ a p, ∃ ys : List Str, V.str z = .str a ∧ [w] = [.ref p] ∧ (SqL X.K H2 p (ys.map V.str) ∨ SqT X.K H2 p (ys.map V.str)) ∧ (ys.map (·.length)).sum + ys.length * a.length ≤ 16777216 ∧ Q (.str (Txt.join a ys)) H2 := fun {ds a vs ys} e1 ew hs rs e2 => by
      rw [strsD_V e1 rs] at hs
      split at e2
      · rename_i hj
        cases e2
        exact ⟨z, a, ys, rfl, by rw [ew], hs, of_decide_eq_true hj, frD q (.str _)⟩
      · cases e2
    cases y <;> simp only [biD, reduceCtorEq] at eb
    · obtain ⟨ys, e1, e2⟩ := Option.bind_eq_some_iff.mp eb
      obtain ⟨a, vs, rfl, ha, ra⟩ := (WRep.rep rw').tupI
      exact fin e1 rfl (.inr (hK ▸ ha)) ra e2
    · obtain ⟨ys, e1, e2⟩ := Option.bind_eq_some_iff.mp eb
      obtain ⟨a, vs, rfl, ha, ra⟩ := (WRep.rep rw').lstI
      exact fin e1 rfl (.inl (hK ▸ ha)) ra e2
  · -- index
    have n1 : n = 1 := hn.elim (fun h => h.1) fun h => absurd h.2 (by decide)
    cases x <;> simp only [Bool.false_eq_true] at ok
    · rename_i xs
      obtain ⟨a, ws, rfl, ha, ra⟩ := (WRep.rep h).tupN
      refine ⟨"tuple", _, _, F.plainAttrs_tuple, F.slot_tuple_index, F.type_tuple_index, mt_tup_index, ty_tup (hK ▸ ha), fun ds vs H2 t Q e r l eb q => ?_⟩
      obtain ⟨y, rfl⟩ : ∃ y, ds = [y] := List.length_eq_one_iff.mp (l.trans n1)
      obtain ⟨w, rfl, rw'⟩ := reps1 r
      cases y <;> simp only [biD, reduceCtorEq] at eb
      obtain ⟨ys, e1, e2⟩ := Option.bind_eq_some_iff.mp eb
      obtain ⟨j, e3, rfl⟩ := Option.map_eq_some_iff.mp e2
      cases rw'
      rw [strsD_V e1 ra] at ha
      obtain ⟨g1, g2⟩ := strIx_at e3
      exact ⟨a, ys, _, j, rfl, rfl, hK ▸ (SqN.ext e ha).sqt, g1, g2, frD q (.int _)⟩
    · rename_i xs
      obtain ⟨a, ws, rfl, ha, ra⟩ := h.lstF
      refine ⟨"list", _, _, F.plainAttrs_list, F.slot_list_index, F.type_list_index, mt_index, ty_lst (hK ▸ ha.sql), fun ds vs H2 t Q e r l eb q => ?_⟩
      obtain ⟨y, rfl⟩ : ∃ y, ds = [y] := List.length_eq_one_iff.mp (l.trans n1)
      obtain ⟨w, rfl, rw'⟩ := reps1 r
      cases y <;> simp only [biD, reduceCtorEq] at eb
      obtain ⟨ys, e1, e2⟩ := Option.bind_eq_some_iff.mp eb
      obtain ⟨j, e3, rfl⟩ := Option.map_eq_some_iff.mp e2
      cases rw'
      rw [strsD_V e1 ra] at ha
      obtain ⟨g1, g2⟩ := strIx_at e3
      rename_i z
      refine ⟨a, ys.map V.str, .str z, j, .str z, rfl, rfl, hK ▸ (SqF.ext e ha).sql, rfl, flat_strs ys, by rw [List.getElem?_map, g1]; rfl, by rw [eqV_str]; simp, fun m z' hm hz => ?_, frD q (.int _)⟩
      rw [List.getElem?_map] at hz
      obtain ⟨y', hy, rfl⟩ := Option.map_eq_some_iff.mp hz
      rw [eqV_str]
      exact beq_eq_false_iff_ne.mpr fun e => g2 m hm (e ▸ hy)
  · -- get
    have n2 : n = 2 := hn.elim (fun h => absurd rfl h.2) fun h => h.1
    cases x <;> simp only [Bool.false_eq_true] at ok
    rename_i ks xs
    obtain ⟨a, ws, rfl, ha, ra, hl⟩ := (WRep.rep h).dicI
    refine ⟨"dict", _, _, F.plainAttrs_dict, F.slot_dict_get, F.type_dict_get, mt_get2 hu, ty_dic ha, fun ds vs H2 t Q e r l eb q => ?_⟩
    obtain ⟨y, z, rfl⟩ : ∃ y z, ds = [y, z] := by
      match ds, l.trans n2 with
      | [y, z], _ => exact ⟨y, z, rfl⟩
    obtain ⟨w, u, rfl, rw', ru⟩ := reps2 r
    simp only [biD] at eb
    split at eb
    · rename_i hlen
      obtain ⟨k, e1, rfl⟩ := Option.map_eq_some_iff.mp eb
      cases keyOf_V e1 (.rep rw')
      cases h with
      | dic hz rz lz =>
        rename_i ws'
        refine ⟨a, _, _, valV (ks.zip ws') k, rfl, rfl, .inl ⟨_, k, .inr (hz.ext e), rfl, rfl⟩, ?_⟩
        cases ek : keyAt ks xs k with
        | some d =>
          obtain ⟨v', h1, h2⟩ := zip_lookup (rz.ext e) ek
          rw [ek] at q
          rw [h1]
          exact frD q h2
        | none =>
          rw [ek] at q
          have hn' : valV (ks.zip ws') k = none := zip_none lz hlen ek
          rw [hn']
          exact frD q ru
    · cases eb
/-- x.m(e), by what it is on data -/
theorem sb_m1 {b : Bi} {o e : Expr} {eo ee : Env → Out D} {apos cpos : Pos} (g : GX W Wx X) (hb : b ≠ .get) (ho : PE X o (tD W Wx eo)) (he : PE X e (tD W Wx ee)) (hs : isStar e = false)
    (hbase : attributeBase o (mName b) X.env (eval o X.env) = eval o X.env) (hline : (apos.endLine == cpos.line) = true) :
    PE X (.Call (.Attribute o (mName b) apos) [e] [] cpos) (tE W Wx fun ρ => (eo ρ).bind fun x ρ => if recvOk b x then (ee ρ).bind fun y ρ => Out.of ρ (biD reprD b [x, y]) else .bad) := by
  have h1 := plain_star (es := []) (env := X.env) (isStar_ne hs)
  refine (pe_bx ho (pa_cons he pa_nil h1) hbase (by rw [h1]; rfl) hline h1 rfl).mono fun σ H Q ⟨C, ρ, rel, q⟩ => ⟨C, ρ, rel, ?_⟩
  refine wD_bind wE_x wE_b wE_m q fun x ρ1 v H1 e1 r1 p1 q1 => ?_
  split at q1
  · rename_i ok
    obtain ⟨Tn, id, r, h2, h3, h4, h5, h6, h7⟩ := m_rule g.hK g.hu 1 (.inl ⟨rfl, hb⟩) p1 ok
    refine ⟨Tn, id, r, h2, h3, h4, h5, h6, C, ρ1, r1, ?_⟩
    refine wD_bind wE_x wE_b wE_m q1 fun y ρ2 w H2 e2 r2 p2 q2 => ?_
    cases eb : biD reprD b [x, y] with
    | none => rw [eb] at q2; exact q2.elim
    | some t =>
      rw [eb] at q2
      exact h7 [y] [w] H2 t Q e2 (.cons p2 .nil) rfl eb fun u H' rs => let ⟨k1, k2⟩ := rs.rel r2; q2 u H' k1 k2
  · exact q1.elim
theorem sb_m2 {b : Bi} {o e f : Expr} {eo ee ef : Env → Out D} {apos cpos : Pos} (g : GX W Wx X) (hb : b = .get) (ho : PE X o (tD W Wx eo)) (he : PE X e (tD W Wx ee)) (hf : PE X f (tD W Wx ef)) (hs : isStar e = false) (hs' : isStar f = false)
    (hbase : attributeBase o (mName b) X.env (eval o X.env) = eval o X.env) (hline : (apos.endLine == cpos.line) = true) :
    PE X (.Call (.Attribute o (mName b) apos) [e, f] [] cpos) (tE W Wx fun ρ => (eo ρ).bind fun x ρ => if recvOk b x then (ee ρ).bind fun y ρ => (ef ρ).bind fun z ρ => Out.of ρ (biD reprD b [x, y, z]) else .bad) := by
  have h1 := plain_star (es := [f]) (env := X.env) (isStar_ne hs)
  have h1' := plain_star (es := []) (env := X.env) (isStar_ne hs')
  refine (pe_bx ho (pa_cons he (pa_cons hf pa_nil h1') h1) hbase (by rw [h1, h1']; rfl) hline h1 (by rw [h1']; rfl)).mono fun σ H Q ⟨C, ρ, rel, q⟩ => ⟨C, ρ, rel, ?_⟩
  refine wD_bind wE_x wE_b wE_m q fun x ρ1 v H1 e1 r1 p1 q1 => ?_
  split at q1
  · rename_i ok
    obtain ⟨Tn, id, r, h2, h3, h4, h5, h6, h7⟩ := m_rule g.hK g.hu 2 (.inr ⟨rfl, hb⟩) p1 ok
    refine ⟨Tn, id, r, h2, h3, h4, h5, h6, C, ρ1, r1, ?_⟩
    refine wD_bind wE_x wE_b wE_m q1 fun y ρ2 w H2 e2 r2 p2 q2 => ⟨C, ρ2, r2, ?_⟩
    refine wD_bind wE_x wE_b wE_m q2 fun z ρ3 u H3 e3 r3 p3 q3 => ?_
    cases eb : biD reprD b [x, y, z] with
    | none => rw [eb] at q3; exact q3.elim
    | some t =>
      rw [eb] at q3
      exact h7 [y, z] [w, u] H3 t Q (e2.trans e3) (.cons (p2.ext e3) (.cons p3 .nil)) rfl eb fun u H' rs => let ⟨k1, k2⟩ := rs.rel r3; q3 u H' k1 k2
  · exact q1.elim
/-- x.upper() -/
theorem sb_upper {o : Expr} {eo : Env → Out D} {apos cpos : Pos} (ho : PE X o (tD W Wx eo)) (hbase : attributeBase o "upper" X.env (eval o X.env) = eval o X.env) (hline : (apos.endLine == cpos.line) = true) :
    PE X (.Call (.Attribute o "upper" apos) [] [] cpos) (tE W Wx fun ρ => (eo ρ).bind fun x ρ => Out.of ρ (biD reprD .upper [x])) := by
  refine (pe_m0 F.slot_str_upper F.type_str_upper mt_upper ho hbase hline).mono fun σ H Q ⟨C, ρ, rel, q⟩ => ⟨C, ρ, rel, ?_⟩
  refine wD_bind wE_x wE_b wE_m q fun x ρ1 v H1 e1 r1 p1 q1 => ?_
  cases x with
  | str z =>
    simp only [biD] at q1
    split at q1
    · rename_i hc
      cases p1
      exact ⟨⟨_, rfl⟩, _, rfl, rfl, of_decide_eq_true hc, q1 _ H1 (Ext.refl _) (r1.relT (.str _))⟩
    · exact q1.elim
  | _ => exact q1.elim
/-- str(i) -/
theorem c_str {R : D → Option Str} : CallD W X (.type "str") (biD R .str) := by
  intro pins s σ H vs us Q I r ⟨ds, t, w, e, q⟩
  match ds, e with
  | [.int i], e =>
    obtain ⟨v, rfl, h⟩ := wreps1 w
    simp only [biD] at e
    split at e
    · rename_i hc
      cases e; cases h.intI
      exact call_str_int pins s σ H _ us Q I r ⟨i, rfl, of_decide_eq_true hc, frD q (.str _)⟩
    · cases e
end
end Eg
set_option Elab.async false
set_option linter.all false
set_option maxRecDepth 100000
set_option maxHeartbeats 4000000
/-! the engine: turned about; raise -/
namespace Eg
open PySem PySem.Spec PyProof.Rows L2
section
variable {prog : Program} {w : World} {A : Around} {E : Value → Shared → Prop} {s : Shared}
theorem fm_congr {α β : Type} {f g : α → Option β} : ∀ l : List α, (∀ x ∈ l, f x = g x) → l.filterMap f = l.filterMap g
  | [], _ => rfl
  | x :: l, h => by
    rw [List.filterMap_cons, List.filterMap_cons, h x (by simp), fm_congr l fun y m => h y (by simp [m])]
theorem rev_picks (xs : Array Value) : ((List.range xs.size).filterMap fun (m : Nat) => xs[((xs.size : Int) - 1 + (m : Int) * (-1)).toNat]?).toArray = xs.toList.reverse.toArray := by
  have e : (List.range xs.size).filterMap (fun (m : Nat) => xs[((xs.size : Int) - 1 + (m : Int) * (-1)).toNat]?) = ((List.range xs.size).map (fun k => xs.size - 1 - k)).filterMap (xs[·]?) := by
    rw [List.filterMap_map]
    refine fm_congr _ fun m hm => ?_
    have := List.mem_range.mp hm
    have : ((xs.size : Int) - 1 + (m : Int) * (-1)).toNat = xs.size - 1 - m := by omega
    rw [this]; rfl
  rw [e, PySem.W.krv_range, List.filterMap_reverse, PySem.W.krv_all]
theorem tup_back {t sl : Addr} {items : Array Value} {vs : Value} {Q : Value → Shared → Prop} (ht : IsTup s.heap t items) (hs : s.heap.IsSliceOf sl .none .none vs) (ps : IsPart vs (some (-1)))
    (h : Q (.ref s.heap.objs.size) { s with heap := s.heap.push { cls := .type "tuple", data := .seq items.toList.reverse.toArray } }) (hsz : items.size ≤ sizeLine) : wpAny (model prog w) A (getItem (.ref t) (.ref sl)) Q E s := by
  obtain ⟨so, h1, h2, h3⟩ := id hs
  have fit : sizeOk (.seq items.toList.reverse.toArray) := by
    show items.toList.reverse.toArray.size ≤ sizeLine
    rw [List.size_toArray, List.length_reverse, Array.length_toList]; exact hsz
  have ty : s.TypeIs (.ref sl) "slice" := ⟨so, h1, h2⟩
  unfold getItem
  try with_reducible refine wpAny_holding ?_
  first | refine wpAny_bind (wpAny_pure ?_) | skip
  refine wpAny_bind (wpAny_sequenceKey ht.typeIs (by decide) ?_)
  refine wpAny_bind (wpAny_callSpecial?_slot (name := Str.ofString "__getitem__") ht.typeIs PyProof.Rows.slot_tuple_getitem (wpAny_call_entry PyProof.Rows.slot_tuple_getitem ht.typeIs entry_tuple_getitem ?_ (args_tuple_getitem _ _)))
  show wpAny _ _ (Builtin.Tuple.tupleItemsOf (.ref t) >>= _) _ _ s
  refine wpAny_bind (tupleItemsOf_ ht (wpAny_bind (wpAny_typeOf ty ?_)))
  rw [if_pos (by decide)]
  have ap : ∀ {A' : Around} {E' : Value → Shared → Prop} {Q' : Int × Int × Nat → Shared → Prop}, Q' ((items.size : Int) - 1, -1, items.size) s → wpAny (model prog w) A' (Builtin.Slice.sliceApplied (.ref sl) (pure (items.size : Int))) Q' E' s := fun {A' E' Q'} q => by
    unfold Builtin.Slice.sliceApplied Builtin.Slice.sliceFields
    refine wpAny_bind (wpAny_bind (wpAny_field h1 h3 (x := .none) rfl (wpAny_bind (wpAny_field h1 h3 (x := .none) rfl (wpAny_bind (wpAny_field h1 h3 (x := vs) rfl (wpAny_pure ?_)))))))
    refine wpAny_bind (HT.slicePart_ ps ?_)
    show wpAny _ _ (if ((-1 : Int) == 0) = true then _ else _) _ _ s
    rw [if_neg (by decide)]
    refine wpAny_bind (slicePart_none (wpAny_bind (slicePart_none (wpAny_bind (wpAny_pure ?_)))))
    have pl : Builtin.Slice.slicePlaces ((items.size : Int) - 1) (-1) (-1) = items.size := by
      unfold Builtin.Slice.slicePlaces
      rw [if_neg (by decide)]
      have : (- -1 : Int) = 1 := by decide
      rw [this, Int.ediv_one]
      split <;> omega
    show wpAny _ _ (pure ((items.size : Int) - 1, (-1 : Int), Builtin.Slice.slicePlaces ((items.size : Int) - 1) (-1) (-1))) _ _ s
    rw [pl]
    exact wpAny_pure q
  refine wpAny_bind (ap ?_)
  have no : ¬ (((((items.size : Int) - 1) == 0) && ((-1 : Int) == 1) && (items.size == items.size)) = true) := by
    intro q
    rw [Bool.and_eq_true, Bool.and_eq_true] at q
    exact absurd q.1.2 (by decide)
  show wpAny _ _ (if ((((items.size : Int) - 1) == 0) && ((-1 : Int) == 1) && (items.size == items.size)) = true then _ else _) _ _ s
  rw [if_neg no, rev_picks]
  first
    | exact wpAny_bind (m := Builtin.Tuple.tupleExact _) (wpAny_newObj_type (wpAny_pure ⟨_, rfl, wpAny_pure h⟩) fit)
    | exact wpAny_bind (m := Builtin.Tuple.tupleExact _) (wpAny_newObj_type (wpAny_bind (wpAny_pure (wpAny_pure ⟨_, rfl, wpAny_pure h⟩))) fit)
    | exact wpAny_bind (wpAny_bind (m := Builtin.Tuple.tupleExact _) (wpAny_newObj_type (wpAny_pure (wpAny_pure ⟨_, rfl, wpAny_pure h⟩)) fit))
    | exact wpAny_bind (wpAny_bind (m := Builtin.Tuple.tupleExact _) (wpAny_newObj_type (wpAny_pure ⟨_, rfl, wpAny_pure h⟩) fit))
end
section
variable {W : Wd} {Wx : WX} {X : Cx} {pos p p1 p2 p3 : Pos} {a : Expr} {ea : Env → Out D}
def tBack (K : PySem.W.Frag) (te : TE) : TE := fun σ H Q => te σ H fun x H1 => ∃ a xs, x = .ref a ∧ ((SqL K H1 a xs ∧ ∀ p, H1 p = none → Q (.ref p) (upd H1 p (.lst xs.reverse))) ∨
  (SqT K H1 a xs ∧ ∀ p o, H1 p = none → o.dict = none → Q (.ref p) (upd H1 p (.frz o (.tup xs.reverse)))))
theorem pe_back {te : TE} {k : Nat} (he : PE X a te) : PE X (.Subscript a (.Slice none none (some (.UnaryOp .USub (.Constant (.int 1) k p1) p2)) p3) pos) (tBack X.K te) := by
  refine ⟨fun pins s σ H Q I h => Subscript_ (thn (he.run pins s σ H _ I h) ?_)⟩
  rintro v s1 ⟨x, H1, I1, r1, b, xs, ex, q⟩
  subst ex
  cases r1
  have st : PO X (some (.UnaryOp .USub (.Constant (.int 1) k p1) p2)) (tPart (tUn (rU fun i => .int (-i)) (tC (.int 1)))) := po_some (pe_un un_neg pe_int)
  refine wpAny_Slice (thn (po_none.run pins s1 σ H1 (fun o H2 => o = none ∧ H2 = H1) I1 ⟨rfl, rfl⟩) ?_)
  rintro vl s2 ⟨l, H2, I2, pl, el, e2⟩
  subst el e2
  refine thn (po_none.run pins s2 σ H2 (fun o H3 => o = none ∧ H3 = H2) I2 ⟨rfl, rfl⟩) ?_
  rintro vu s3 ⟨u, H3, I3, pu, eu, e3⟩
  subst eu e3
  refine thn (st.run pins s3 σ H3 (fun o H4 => o = some (-1) ∧ H4 = H3) I3 ⟨1, rfl, -1, rfl, rfl, rfl⟩) ?_
  rintro vs s4 ⟨o, H4, I4, ps, eo, e4⟩
  subst eo e4
  have J : Inv X pins σ H4 { s4 with heap := s4.heap.push { cls := .type "slice", data := .fields #[vl, vu, vs] } } := I4.kept (t' := s4.toks) fun b ob q => Heap.get?_push_of_some _ q
  show wpAny (model X.prog X.w) X.A (subscriptTail a (.Slice none none (some (.UnaryOp .USub (.Constant (.int 1) k p1) p2)) p3) (.ref b) (.ref s4.heap.objs.size)) (EP X pins σ Q) X.xe { s4 with heap := s4.heap.push { cls := .type "slice", data := .fields #[vl, vu, vs] } }
  rcases q with ⟨hx, q⟩ | ⟨hx, q⟩
  · obtain ⟨its, r, ht, hz⟩ := J.list hx
    have hlen := r.length
    refine tail_any (ops := [.ref b, .ref s4.heap.objs.size]) ht.isList.typeIs (PySem.slot_list_getitem.lookup) ?_ (by with_unfolding_all rfl)
    refine wpAny_getItem_list_slice ht.isList (Heap.IsSliceOf.new _ vl vu vs) pl pu ps (by decide) ?_ (by rw [List.size_toArray]; omega)
    rw [PySem.W.krv_pick]
    exact ⟨.ref _, _, J.laid (t' := s4.toks) (o := .lst xs.reverse) (fun c ob q => Heap.get?_push_of_some _ q) (Nat.le_refl _) ⟨by rw [List.length_reverse]; exact hz, _, 0, r.reverse, Heap.get?_push_size _ rfl⟩, rfl, q _ (J.hok.fresh (Nat.le_refl _))⟩
  · obtain ⟨its, r, ht, hz⟩ := J.tuple hx
    have hlen := r.length
    refine tail_any (ops := [.ref b, .ref s4.heap.objs.size]) ht.typeIs (PyProof.Rows.slot_tuple_getitem.lookup) ?_ (by with_unfolding_all rfl)
    cases pl; cases pu
    refine tup_back ht (Heap.IsSliceOf.new _ .none .none vs) ps ?_ (by rw [List.size_toArray]; omega)
    obtain ⟨o, ho, hf, J2⟩ := laidN (t' := s4.toks) J r.reverse (by rw [List.length_reverse]; exact hz)
    exact ⟨.ref _, _, J2, rfl, q _ o hf ho⟩
theorem sb_back {k : Nat} (g : GX W Wx X) (ha : PE X a (tD W Wx ea)) : PE X (.Subscript a (.Slice none none (some (.UnaryOp .USub (.Constant (.int 1) k p1) p2)) p3) pos) (tE W Wx fun ρ => (ea ρ).bind fun x ρ => match x with
    | .tup xs => .ok (.fr (.tup xs.reverse)) ρ
    | .lst xs => .ok (.lst (xs.reverse.map .fr)) ρ
    | _ => .bad) := by
  refine (pe_back ha).mono fun σ H Q ⟨C, ρ, rel, q⟩ => ⟨C, ρ, rel, ?_⟩
  refine wD_bind wE_x wE_b wE_m q fun x ρ1 v H1 e1 r1 p1 q1 => ?_
  cases x with
  | tup xs =>
    obtain ⟨b, vs, rfl, hb, rb⟩ := (WRep.rep p1).tupI
    refine ⟨b, vs, rfl, .inr ⟨g.hK ▸ hb, fun p o hp ho => ?_⟩⟩
    obtain ⟨k1, k2⟩ := (ResT.newTup hp ho rb.reverse).rel r1
    exact q1 _ _ k1 k2
  | lst xs =>
    obtain ⟨b, vs, rfl, hb, rb⟩ := (WRep.rep p1).lstI
    refine ⟨b, vs, rfl, .inl ⟨g.hK ▸ hb, fun p hp => ?_⟩⟩
    obtain ⟨k1, k2⟩ := (ResT.newLst hp rb.reverse).rel r1
    exact q1 _ _ k1 k2
  | _ => exact q1.elim

/-! ### raise C(..) -/
theorem x_mk {pins : List (Addr × Obj)} {σ : L2.St} {H : Hp} {s : Shared} {C : Addr} {v : V} {u : Value} {Q : XK} (T : XF X.prog X.K C) (ce : Raises X (.ref C)) (nosup : X.mg "super" = none) (hroom : X.A.depth + 1 < recursionLimit) (I : Inv X pins σ H s) (rv : RelV v u)
    (q : ∀ dx, H dx = none → Q (.ref C) (some dx) (upd H dx (.xd [("value", v)]))) :
    wpAny (model X.prog X.w) X.A (call (.ref C) [u]) (MkP X pins σ Q) X.xe s := by
  obtain ⟨mb, hb1, hb2⟩ := I.ok.mod.blt
  have hsup : mb "super" = some (.type "super") := (hb2 _ (by decide)).trans (by decide +kernel)
  obtain ⟨hp, g, d, tk, os⟩ := s
  refine wpAny_call (x_call T I.kIn I.nolimit (I.mod.glob.keeps I.bk) nosup (hb1.keeps I.bk) hsup hroom fun h' tk' e dx t1 k le ld ne he hd => ?_)
  have ne' : H e = none := I.hok.fresh le
  have nd' : H dx = none := I.hok.fresh ld
  have fe : ∀ {b : Addr} {o : Obj}, hp.get? b = some o → b ≠ e := fun {b o} z => Nat.ne_of_lt (Nat.lt_of_lt_of_le (Heap.lt_size z) le)
  have fd : ∀ {b : Addr} {o : Obj}, hp.get? b = some o → b ≠ dx := fun {b o} z => Nat.ne_of_lt (Nat.lt_of_lt_of_le (Heap.lt_size z) ld)
  have kh : ∀ b o, hp.get? b = some o → (PySem.W.hideAll h' [e]).get? b = some o := fun b o z => PySem.W.hideAll_get _ (k b o z) (by simpa using fe z)
  have up : ∀ {b : Addr} {o : HO} {ox : HO}, H b = some o → upd H dx ox b = some o := fun {b o ox} z => by rw [upd_ne (ne_of_none z nd')]; exact z
  have J : Inv X pins σ (upd H dx (.xd [("value", v)])) ⟨PySem.W.hideAll h' [e], g, d, tk', os⟩ := by
    refine I.un (h' := PySem.W.hideAll h' [e]) (t' := tk') ⟨fun b o z _ _ _ => kh b o z, fun b o z _ _ _ => ⟨o.slots, kh b o z⟩, fun b o z n _ => by rw [upd_ne (fd z)]; exact n, fun b o z _ => ⟨o, kh b o z⟩, fun b xs z => up z, fun b o w z => up z, fun b ps z => ⟨#[], by rw [up z]; simp⟩⟩ fun b o z => ?_
    by_cases hbd : b = dx
    · subst hbd
      rw [upd_same] at z; cases z
      obtain ⟨o, es, ep, hb, rest⟩ := hd
      refine ⟨_, ⟨o, es, ep, PySem.W.hideAll_get _ hb (by simpa using ne), rest⟩, fun f => ?_⟩
      by_cases hf : f = ("value" : Str)
      · subst hf
        rw [if_pos rfl]
        have : List.lookup ("value" : Str) [(("value" : Str), v)] = some v := by simp [List.lookup]
        rw [this]; exact rv
      · rw [if_neg hf]
        have hb : (f == ("value" : Str)) = false := beq_eq_false_iff_ne.mpr hf
        have : List.lookup f [(("value" : Str), v)] = none := by simp [List.lookup, hb]
        rw [this]; exact True.intro
    · rw [upd_ne hbd] at z
      exact (I.hok b o z).stay (fun c w _ y => kh c w y) (fun c y => up y) fun c xs y => up y
  exact ⟨e, _, _, ⟨PySem.W.hideAll h' [e], g, d, tk', os⟩, _, .ref C, some dx, rfl, J, fun b o z => PySem.W.of_hideAll _ z, PySem.W.hideAll_none _ (by simp), he, ⟨rfl, rfl⟩, rfl, rfl, by rw [upd_ne (Ne.symm ne)]; exact ne', rfl, J.bare, ce, q dx nd'⟩
theorem pmk_x {x : Str} {c : Nat} (g : GX W Wx X) (T : XF X.prog X.K (W.cA c)) (nosup : X.mg "super" = none) (hroom : X.A.depth + 1 < recursionLimit) (hg : Gl X x) (hm : X.mg x = some (.ref (W.cA c))) (hdb : (x == ("__debug__" : Str)) = false) (hs : isStar a = false)
    (ha : PE X a (tD W Wx ea)) : PMk X (.Call (.Name x p) [a] [] pos) (fun σ H Q => ∃ C ρ, Rel W C ρ σ H ∧ wD W C Wx (ea ρ) σ H fun v H1 => ∃ y ρ1, Ext H H1 ∧ Rel W C ρ1 σ H1 ∧ Rep W H1 y v ∧ ea ρ = .ok y ρ1 ∧ ∀ dx, H1 dx = none → Q (.ref (W.cA c)) (some dx) (upd H1 dx (.xd [("value", v)]))) := by
  intro pins s σ H Q I ⟨C, ρ, rel, q⟩
  refine wpAny_Call_Name_kw (ld_glob I hg hm ?_ hdb)
  have hpa : PA X [a] (tCons (tD W Wx ea) tNil) := pa_cons ha pa_nil (plain_star (isStar_ne hs))
  refine PySem.W.callWith_K (h₀ := X.base) I.ok.mod.kin T.oex.kC (thn (hpa.run pos pins s σ H (fun vs H1 => ∃ v, vs = [v] ∧ ∀ dx, H1 dx = none → Q (.ref (W.cA c)) (some dx) (upd H1 dx (.xd [("value", v)]))) I ⟨C, ρ, rel, q.imp fun v H1 ⟨_, _, _, _, _, _, k⟩ => ⟨v, rfl, k⟩⟩) fun us s1 ⟨vs, H1, I1, r, v, ev, k⟩ => ⟨I1.kIn, ?_⟩) (plain_star (isStar_ne hs)) rfl
  subst ev
  obtain ⟨u, rfl, ru⟩ := vals1 r
  exact x_mk T (raises_own T.oex.exC T.oex.tyC) nosup hroom I1 ru k
/-- raise C(a) -/
theorem ss_raise {x : Str} {c : Nat} {io : List Nat} {p3 : Pos} (g : GX W Wx X) (T : XF X.prog X.K (W.cA c)) (nosup : X.mg "super" = none) (hroom : X.A.depth + 1 < recursionLimit) (hg : Gl X x) (hm : X.mg x = some (.ref (W.cA c))) (hdb : (x == ("__debug__" : Str)) = false) (hs : isStar a = false)
    (ha : PE X a (tD W Wx ea)) : PS X (.Raise (some (.Call (.Name x p) [a] [] pos)) none p3) (tS W Wx io fun ρ => SO.of (ea ρ) fun d ρ => .exc (.exc c d) ρ) := by
  refine (ps_raise g.calm g.tk (pmk_x g T nosup hroom hg hm hdb hs ha)).mono fun Dn σ H ⟨C, ρ, hf, rel, q⟩ => ⟨C, ρ, rel, ?_⟩
  cases eo : ea ρ with
  | bad => simp only [eo, SO.of] at q; exact q.elim
  | exc d ρ1 => simp only [eo, SO.of] at q; exact fun cls dx H' e rx r => q cls dx σ H' e rx r
  | ok y ρ1 =>
    simp only [eo, SO.of] at q
    intro v H1 e1 r1 p1
    refine ⟨y, ρ1, e1, r1, p1, rfl, fun dx hd => ?_⟩
    have e2 : Ext H1 (upd H1 dx (.xd [("value", v)])) := Ext.new hd
    exact q _ _ σ _ (e1.trans e2) ⟨rfl, dx, v, rfl, upd_same, p1.ext e2, let ⟨_, rp⟩ := r1; rp.fresh hd⟩ (r1.new hd fun _ z => nomatch z)
end

/-! ### try: .. except C as n: n's object is kept -/
def wAsA (K : PySem.W.Frag) (c : Value) (i : Nat) (ts : Addr → Value → Option Addr → TS) (Dn : Ends) : WX := fun cls d σ H =>
  PySem.W.exmOne K cls c = some true ∧ ∀ (a : Addr) (oe : Obj), H a = none → Zc cls d oe → (∃ vs, oe.data = .fields vs) →
    ts a cls d { nx := fun σ' H' => H' a = none → ∃ dx fs, d = some dx ∧ H' dx = some (.xd fs) ∧ ∀ od, Dn.nx (σ'.set i none) (upd (upd H' dx (.frz od (.xd fs))) a (.frz oe (.ext fun h => h.get? a = some oe))), rt := fun _ _ => False, bk := fun _ _ => False, ct := fun _ _ => False } (σ.set i (some (.ref a))) H
/-- a pinned object of no one's is known from now on -/
theorem adopt {X : Cx} {pins : List (Addr × Obj)} {σ : L2.St} {H : Hp} {s : Shared} {a : Addr} {oe : Obj} (I : Inv X ((a, oe) :: pins) σ H s) (h0 : X.s_0.heap.get? a = none) (hc : ∀ x c, X.env.cells.lookup x = some c → c ≠ a) (hp : ∀ q ∈ X.pn ++ pins, q.1 ≠ a) :
    Inv X pins σ (upd H a (.frz oe (.ext fun h => h.get? a = some oe))) s := by
  obtain ⟨g, na, nL, _, _⟩ := I.pin (a, oe) (by simp)
  have up : ∀ {b : Addr} {o : HO}, H b = some o → upd H a (.frz oe (.ext fun h => h.get? a = some oe)) b = some o := fun {b o} z => by rw [upd_ne (ne_of_none z na)]; exact z
  have nn : ∀ {b : Addr} {o : Obj}, X.s_0.heap.get? b = some o → b ≠ a := fun {b o} z w => by rw [w, h0] at z; cases z
  refine ⟨I.ok, I.os, I.bare, ⟨I.base.keep, I.base.slot, fun b o z n x => by rw [upd_ne (nn z)]; exact I.base.free b o z n x, I.base.there, fun b xs z => up (I.base.tups b xs z), fun b o w z => up (I.base.frzs b o w z), fun b ps z => by
      obtain ⟨m, hm⟩ := I.base.tbls b ps z
      exact ⟨m, up hm⟩⟩, I.loc, I.cell, by rw [upd_ne (Ne.symm nL)]; exact I.free, fun x c z => by rw [upd_ne (hc x c z)]; exact I.freeC x c z, fun q hq => ?_, fun b o z => ?_, I.len⟩
  · obtain ⟨k1, k2, k3⟩ := I.pin q (by simp at hq ⊢; rcases hq with hq | hq <;> simp [hq])
    exact ⟨k1, by rw [upd_ne (hp q hq)]; exact k2, k3⟩
  · by_cases e : b = a
    · subst e
      rw [upd_same] at z; cases z
      exact ⟨g, g, ⟨_, g⟩, fun h1 h2 y kk => kk _ y⟩
    · rw [upd_ne e] at z
      exact (I.hok b o z).stay (fun c w _ y => y) (fun c y => up y) fun c xs y => up y
/-- an exception's dict is locked -/
theorem lockX {X : Cx} {pins : List (Addr × Obj)} {σ : L2.St} {H : Hp} {s : Shared} {d : Addr} {fs : List (Str × V)} (I : Inv X pins σ H s) (h : H d = some (.xd fs)) : ∃ od, Inv X pins σ (upd H d (.frz od (.xd fs))) s := by
  have okd := I.hok d _ h
  obtain ⟨mA, hn, rel⟩ := id okd
  obtain ⟨od, hod⟩ : ∃ o, s.heap.get? d = some o := let ⟨o, _, _, z, _⟩ := hn; ⟨o, z⟩
  have ne : ∀ {b : Addr} {o : HO}, H b = some o → (∀ gs, o ≠ .xd gs) → b ≠ d := fun {b o} z n w => by rw [w, h] at z; cases z; exact n _ rfl
  have n0 : ∀ {b : Addr}, H b = none → b ≠ d := fun {b} z w => by rw [w, h] at z; cases z
  refine ⟨od, I.ok, I.os, I.bare, ⟨I.base.keep, I.base.slot, fun b o z n x => ?_, I.base.there, fun b xs z => ?_, fun b o w z => ?_, fun b ps z => ?_⟩, I.loc, I.cell, ?_, fun x c z => ?_, fun q hq => ?_, fun b o z => ?_, I.len⟩
  · have k := I.base.free b o z n x
    rw [upd_ne (n0 k)]; exact k
  · have k := I.base.tups b xs z
    rw [upd_ne (ne k fun _ w => nomatch w)]; exact k
  · have k := I.base.frzs b o w z
    rw [upd_ne (ne k fun _ w => nomatch w)]; exact k
  · obtain ⟨m, k⟩ := I.base.tbls b ps z
    exact ⟨m, by rw [upd_ne (ne k fun _ w => nomatch w)]; exact k⟩
  · rw [upd_ne (n0 I.free)]; exact I.free
  · have k := I.freeC x c z
    rw [upd_ne (n0 k)]; exact k
  · obtain ⟨k1, k2, k3⟩ := I.pin q hq
    exact ⟨k1, by rw [upd_ne (n0 k2)]; exact k2, k3⟩
  · have keepO : ∀ {c : Addr} {u : HO}, H c = some u → (∀ gs, u ≠ .xd gs) → upd H d (.frz od (.xd fs)) c = some u := fun {c u} w n => by rw [upd_ne (ne w n)]; exact w
    by_cases e : b = d
    · subst e
      rw [upd_same] at z; cases z
      exact ⟨hod, mA, hn, rel⟩
    · rw [upd_ne e] at z
      exact (I.hok b o z).stay (fun c w _ y => y) (fun c y => keepO y fun _ w => nomatch w) fun c xs y => keepO y fun _ w => nomatch w
end Eg
set_option Elab.async false
set_option linter.all false
set_option maxRecDepth 100000
set_option maxHeartbeats 4000000
/-! the engine: told(lambda: ..) -/
namespace Eg
open PySem PySem.Spec PyProof.Rows L2
section
variable {X : Cx} {x n : Str} {c : Value} {i : Nat} {body suite : List Stmt} {b₀ : Stmt} {np pos pos' : Pos} {tb : WX → TS} {ts : Addr → Value → Option Addr → TS}
theorem try_kept (hex : X.ex = []) (stk : X.stack = X.env :: X.outer) (fra : X.env.frame = some X.env.locals) (nd : X.N.Nodup) (ix : X.N[i]? = some n) (lo : X.env.kindOf n = some .local) (nm : Names X x c)
    (bo : ∀ (W : WX) (pn : List (Addr × Obj)) (xe : Value → Shared → Prop), Takes (X.tr pn xe) W → PassesOwn (model X.prog X.w) X.A X.env xe → PSs (X.tr pn xe) body (tb W))
    (su : ∀ (a : Addr) (oe : Obj) (cls : Value) (d : Option Addr) (pn : List (Addr × Obj)), Zc cls d oe → (∃ vs, oe.data = .fields vs) → PSs (X.suite a ((a, oe) :: pn)) (b₀ :: suite) (ts a cls d)) :
    PS X (.Try body [.ExceptHandler (some (.Name x np)) (some n) (b₀ :: suite) pos'] [] [] pos) (fun Dn σ H => tb (wAsA X.K c i ts Dn) Dn σ H) := by
  refine ⟨fun pins s σ H Dn I h => ?_⟩
  have okX := I.ok
  have frs' : X.A.frames = some (X.env :: X.outer) := okX.frames.trans (congrArg some stk)
  refine wpAny_Try_except (wpAny_mono ((bo (wAsA X.K c i ts Dn) (X.pn ++ pins) _ ?tk PassesOwn.looking).run [] s σ H Dn (I.toTry _) h) (fun f s1 hf => ?nx) (fun e s1 he => he))
  case nx =>
    cases f with
    | next => obtain ⟨σ1, H1, J, q⟩ := hf; exact wpAny_execs_nil ⟨σ1, H1, J.ofTry okX, q⟩
    | brk => obtain ⟨σ1, H1, J, q⟩ := hf; exact ⟨σ1, H1, J.ofTry okX, q⟩
    | cont => obtain ⟨σ1, H1, J, q⟩ := hf; exact ⟨σ1, H1, J.ofTry okX, q⟩
    | ret u => obtain ⟨v, σ1, H1, J, r, q⟩ := hf; exact ⟨v, σ1, H1, J.ofTry okX, r, q⟩
  case tk =>
    rintro u s' ⟨a, B, sI, pins', σ1, H1, cls, d, rfl, J0, nb, up, sky, na, os, ag, yes, go⟩
    have J : Inv X pins σ1 H1 sI := J0.ofTry okX
    show wpAny (model X.prog X.w) X.A (noteFrame (.ref a) X.env) _ _ _
    refine Sky.land Zc.steady frs' fra (stk ▸ sky) fun h3 fl up3 => ?_
    have J3 : Inv X pins σ1 H1 { s' with heap := h3 } := J.landed nb fl.1 (up.trans up3) os ag
    obtain ⟨o3, vs3, g3, z3, d3⟩ := fl.there
    have apart : ∀ {hh : Heap} {o : Obj} {vs : Array Value}, hh.FunFrames B (X.env :: X.outer) → hh.get? a = some o → o.data = .fields vs → a ∉ L2.frs (X.env :: X.outer) := fun {hh o vs} ff g dd m => by
      obtain ⟨_, o2, g2, no⟩ := ff.mem m
      cases g.symm.trans g2
      exact no _ dd
    have nfr := apart fl.2.2.1 g3 d3
    have nL : a ≠ X.env.locals := fun z => nfr (List.mem_filterMap.mpr ⟨X.env, List.mem_cons_self, z ▸ fra⟩)
    have nF : a ∉ X.fs := fun m => by
      obtain ⟨e, he, q⟩ := List.mem_filterMap.mp m
      exact nfr (List.mem_filterMap.mpr ⟨e, List.mem_cons_of_mem _ he, q⟩)
    have noB : ∀ {o : Obj}, sI.heap.get? a = some o → False := fun {o} g => by
      have := nb a o g (by rw [stk]; exact nfr)
      have k := fl.2.1
      rw [this] at k
      first | exact absurd k (by simp) | cases k
    have LT : PySem.W.Looks (model X.prog X.w) h3 (typeOf (.ref a)) cls := fun A Q E s k q => wpAny_typeOf_ref (k _ _ g3) (by rw [z3.1]; exact q)
    have S3 := J3.suite g3 d3 na nL nF
    refine wpAny_handleBy_cons (codeAny_handlers_test ?_) (fun z => nomatch z)
    have asked : ∀ {Q E : Value → Shared → Prop}, Q c { s' with heap := h3 } → wpAny (model X.prog X.w) (X.A.mark (some (.ref a))) (eval (.Name x np) X.env) Q E { s' with heap := h3 } := fun {Q E} q => by
      rcases nm with ⟨gl, db, m1 | ⟨m1, m2, m3⟩⟩
      · exact ld_glob (X := X.suite a ((a, o3) :: (X.pn ++ pins))) S3 gl m1 q db
      · exact ld_blt (X := X.suite a ((a, o3) :: (X.pn ++ pins))) S3 gl m1 m2 q m3 db
    refine asked ((PySem.W.exm_one (M := model X.prog X.w) J3.kIn LT yes).here ?_)
    refine codeAny_handlers_suite_as (HandSPX.lands_againZ fl fun h4 fl4 up4 => ?_)
    have J4 : Inv X pins σ1 H1 { s' with heap := h4 } := J.landed nb fl4.1 ((up.trans up3).trans up4) os ag
    obtain ⟨o4, vs4, g4, z4, d4⟩ := fl4.there
    have S4 := J4.suite g4 d4 na nL nF
    refine store_ok (X := X.suite a ((a, o4) :: (X.pn ++ pins))) (v := .ref a) S4 nd ix (.inl lo) rfl (fun s5 S5 => ?_) (.inr lo)
    refine wpAny_mono ((su a o4 cls d (X.pn ++ pins) z4 ⟨_, d4⟩).run [] s5 _ H1 _ S5 (go a o4 na z4 ⟨_, d4⟩)) (fun f s6 sp => ?_) (fun _ _ z => z.elim)
    cases f with
    | brk => obtain ⟨_, _, _, z⟩ := sp; exact z.elim
    | cont => obtain ⟨_, _, _, z⟩ := sp; exact z.elim
    | ret u => obtain ⟨_, _, _, _, _, z⟩ := sp; exact z.elim
    | next =>
      obtain ⟨σ6, H6, S6, q6⟩ := sp
      obtain ⟨_, n6, _⟩ := S6.pin (a, o4) (by simp)
      have K6 : Inv X ((a, o4) :: pins) σ6 H6 s6 := ⟨okX, S6.os, S6.bare, S6.base, S6.loc, S6.cell, S6.free, S6.freeC, fun p hp => S6.pin p (by simp at hp ⊢; rcases hp with hp | hp | hp <;> simp [hp]), S6.hok, S6.len⟩
      obtain ⟨dx, fs, rfl, hdx, k6⟩ := q6 n6
      refine gone_ok K6 nd ix lo fun s7 J7 => ?_
      obtain ⟨od, J8⟩ := lockX J7 hdx
      refine ⟨_, _, adopt J8 ?_ ?_ ?_, k6 od⟩
      · cases e0 : X.s_0.heap.get? a with
        | none => rfl
        | some o =>
          obtain ⟨o', e1⟩ := J.base.there a o e0 (by rw [hex]; simp)
          exact (noB e1).elim
      · intro y b hb z
        obtain ⟨v, hv⟩ := J.cell y b hb
        obtain ⟨o, g, _⟩ := hv
        exact noB (z ▸ g)
      · intro q hq z
        have g := (J.pin q hq).1
        exact noB (z ▸ g)
end
end Eg
namespace Eg
open PySem PySem.Spec PyProof.Rows L2 LamX
abbrev lamQ (X : Cx) : Str := X.env.qual ++ "<lambda>"
abbrev lamO (X : Cx) (params : Arguments) (body : Expr) (scope : Scope) (pm : Value) (c' : Addr) (ctv : Value) : Obj := PySem.W.kla_obj "<lambda>" (lamQ X) params body scope (cloFrom X.env.cells scope.names []) pm c' ctv
section
variable {X : Cx} {pins : List (Addr × Obj)} {σ : L2.St} {H : Hp} {s : Shared}
/-- what a new lambda leaves -/
structure LamMade (X : Cx) (pins : List (Addr × Obj)) (σ : L2.St) (H : Hp) (Ts : List (Addr × Str)) (params : Arguments) (body : Expr) (scope : Scope) (f c' : Addr) (pm ctv : Value) (H1 : Hp) (s' : Shared) : Prop where
  inv : Inv X pins σ H1 s'
  ext : ExtN H H1
  dom : ∀ b, H b ≠ none → H1 b ≠ none
  tab : Tabs Ts H1
  obj : s'.heap.get? f = some (lamO X params body scope pm c' ctv)
  fre : H1 f = none
  nfr : f ∉ L2.frs X.stack
  cod : H1 c' = some (CodeO c' (lamQ X))
theorem lam_mk {Ts : List (Addr × Str)} {c P : Addr} {params : Arguments} {body : Expr} {scope : Scope} {pos : Pos} {E : Value → Shared → Prop} {Q : Value → Shared → Prop} (I : Inv X pins σ H s) (B : TabB X.base X.mg c P) (hcd : X.env.code = .ref c)
    (mem : (P, lamQ X) ∈ Ts) (uni : ∀ p ∈ Ts, p.1 = P → p.2 = lamQ X) (tb : Tabs Ts H) (nodef : defaultsOf params X.env = ([], [])) (fr : ∀ y ∈ scope.names, y.2 = .free → ∃ c, X.env.cells.lookup y.1 = some c)
    (h : ∀ (f c' : Addr) (pm ctv : Value) (H1 : Hp) (s' : Shared), LamMade X pins σ H Ts params body scope f c' pm ctv H1 s' → Q (.ref f) s') :
    wpAny (model X.prog X.w) X.A (eval (.Lambda params body scope pos) X.env) Q E s := by
  obtain ⟨ps, atP, tri, amg⟩ := tb _ mem
  have gP : s.heap.get? P = some { cls := .none, data := .fields ps } := I.hok P _ atP
  have out : ∀ a, s.heap.objs.size ≤ a → a ∉ L2.frs X.stack := by
    intro a ha z
    rcases List.mem_cons.mp (I.stkSub _ z) with e | e
    · exact absurd (e ▸ I.lt) (Nat.not_lt.mpr ha)
    · exact I.nofs ha e
  refine PySem.W.kla_eval nodef ?_
  cases hc : codeAmong pos ps.toList with
  | some cv =>
    obtain ⟨c', rfl, co⟩ := amg pos cv hc
    refine PySem.W.kla_makeFunctionHit (mg := X.mg) (c := c) (P := P) (ps := ps) (closure_ok fr) I.ok.glob (I.mod.glob.keeps I.bk) hcd (B.code.keeps I.bk) gP tri hc (B.bm.keeps I.bk) ?_
    intro ctv h' tk kp sz
    exact h h'.objs.size c' ((X.mg "__name__").getD .none) ctv H _ ⟨I.kept fun b o e => Heap.get?_push_of_some _ (kp b o e), ExtN.refl H, fun _ z => z, tb, Heap.get?_push_size _ rfl, I.hok.fresh sz, out _ sz, co⟩
  | none =>
    refine PySem.W.kla_makeFunction (mg := X.mg) (c := c) (P := P) (ps := ps) (closure_ok fr) I.ok.glob (I.mod.glob.keeps I.bk) hcd (B.code.keeps I.bk) gP tri hc B.gP (B.bm.keeps I.bk) ?_
    intro c' ctv h' tk kx ge lt rec_ atb
    obtain ⟨_, oc, vs, t, ec, goc, dd, vv⟩ := rec_
    cases ec
    have sz : s.heap.objs.size ≤ h'.objs.size := Nat.le_trans ge (Nat.le_of_lt lt)
    have nC : H c' = none := I.hok.fresh ge
    have J := inv_table (q := lamQ X) (t' := tk) (more := #[rawInt pos.line, rawInt pos.col, .ref c']) (h' := h'.push (lamO X params body scope ((X.mg "__name__").getD .none) c' ctv)) I atP
      (fun b o nb e => Heap.get?_push_of_some _ (kx b o nb e)) (Heap.get?_push_of_some _ atb) ge ⟨oc, vs, t, Heap.get?_push_of_some _ goc, dd, vv⟩
    have ex : ExtN H (upd (upd H P (.tbl (ps ++ #[rawInt pos.line, rawInt pos.col, .ref c']))) c' (CodeO c' (lamQ X))) := fun b o e nt => by
      have nbP : b ≠ P := fun z => nt ps (Option.some.inj (e.symm.trans (z ▸ atP)))
      rw [upd_ne (ne_of_none e nC), upd_ne nbP, e]
    have lis : (ps ++ #[rawInt pos.line, rawInt pos.col, .ref c']).toList = ps.toList ++ [rawInt pos.line, rawInt pos.col, .ref c'] := by simp
    refine h h'.objs.size c' ((X.mg "__name__").getD .none) ctv _ _ ⟨J, ex, fun b nb => ?_, fun p hp => ?_, Heap.get?_push_size _ rfl, ?_, out _ sz, upd_same⟩
    · by_cases z : b = c'
      · rw [z, upd_same]; exact fun w => nomatch w
      · rw [upd_ne z]
        by_cases y : b = P
        · rw [y, upd_same]; exact fun w => nomatch w
        · rw [upd_ne y]; exact nb
    · by_cases z : p.1 = P
      · rw [uni p hp z, z]
        refine ⟨_, (upd_ne (ne_of_none atP nC)).trans upd_same, by rw [lis]; exact PySem.TriplesOk_snoc _ _ _ _ tri, fun p' cv w => ?_⟩
        rw [lis] at w
        refine (among_app _ tri w).elim (fun w => ?_) fun w => ⟨c', w, upd_same⟩
        obtain ⟨c0, e1, e2⟩ := amg p' cv w
        exact ⟨c0, e1, ex _ _ e2 codeO_ne⟩
      · obtain ⟨qs, a1, a2, a3⟩ := tb p hp
        refine ⟨qs, (upd_ne (ne_of_none a1 nC)).trans ((upd_ne z).trans a1), a2, fun p' cv w => ?_⟩
        obtain ⟨c0, e1, e2⟩ := a3 p' cv w
        exact ⟨c0, e1, ex _ _ e2 codeO_ne⟩
    · have n2 : h'.objs.size ≠ P := fun z => absurd (Heap.lt_size gP) (Nat.not_lt.mpr (z ▸ sz))
      rw [upd_ne (Nat.ne_of_gt lt), upd_ne n2]
      exact I.hok.fresh sz
end
end Eg
set_option Elab.async false
set_option linter.all false
set_option maxRecDepth 100000
set_option maxHeartbeats 4000000
/-! the engine: told(lambda: ..), the def that is handed it -/
namespace Eg
open PySem PySem.Spec PyProof.Rows L2 LamX
section
variable {X : Cx} {pins : List (Addr × Obj)} {σ : L2.St} {H : Hp} {s : Shared}
abbrev toldCx (X : Cx) (Ng : List Str) (x : Str) (sg : Scope) (g : Addr) (cdg : Value) (s : Shared) (H : Hp) : Cx := cxOf (L2.CX X.prog X.w) X.prog X.w X.K X.mg X.base Ng x sg g cdg X.A X.stack s H (fun _ _ _ => False)
theorem lam_run {Ng : List Str} {x a : Str} {sg : Scope} {g f c' : Addr} {cdg pm ctv : Value} {params : Arguments} {body : Expr} {scope : Scope} {k i : Nat} {pn : List (Addr × Obj)} {xe : Value → Shared → Prop} {W : WX} {tb : XK → TE} {p1 p2 : Pos}
    (I : Inv X pins σ H s) (L : LamS X.env.scope scope) (ob : s.heap.get? f = some (lamO X params body scope pm c' ctv)) (nf : H f = none) (ns : f ∉ L2.frs X.stack)
    (bd : bindArgs (PySem.W.kla_fn "<lambda>" (lamQ X) params body scope (cloFrom X.env.cells scope.names []) pm (.ref c') ctv) ⟨[], []⟩ = pure [])
    (tk : Takes ((toldCx X Ng x sg g cdg s H).tr pn xe) W) (hr : Room (k + 1) (X.A.deeper (envOfC x sg s.heap.objs.size g cdg))) (hgd : X.A.guards = some [])
    (hbody : ∀ (A : Around) (outer : List PySem.Env) (s : Shared) (H : Hp) (E : XK), Room k (A.deeper (lamEnv X scope s.heap.objs.size f c')) → A.guards = some [] → PE (lamCx X A outer s H E scope f c') body (tb E))
    (iN : Ng[i]? = some a) (va : Vis sg a) (d1 : (a == ("__debug__" : Str)) = false) (d2 : (a == ("__classdict__" : Str)) = false) :
    PE ((toldCx X Ng x sg g cdg s H).tr pn xe) (.Call (.Name a p1) [] [] p2)
      (fun σZ HZ Q => σZ[i]? = some (some (.ref f)) ∧ HZ c' = some (CodeO c' (lamQ X)) ∧ tb (fun cls d H' => W cls d σZ H') σ HZ Q) := by
  refine ⟨fun pz sZ σZ HZ Q IZ ⟨at_, co, go⟩ => ?_⟩
  refine wpAny_Call_Name_kw (thn ((pe_var (pos := p1) (i := i) iN va d1 d2).run pz sZ σZ HZ (fun v H1 => v = .ref f ∧ H1 = HZ) IZ ⟨.ref f, at_, rfl, rfl⟩) ?_)
  rintro u s1 ⟨v, H1, I1, rv, rfl, rfl⟩
  cases (show u = Value.ref f from rv)
  have ob1 : s1.heap.get? f = some (lamO X params body scope pm c' ctv) := I1.base.keep f _ ob nf ns (by show f ∉ ([] : List Addr); simp)
  have un : Un (L2.frs X.stack) [] H H1 s.heap s1.heap := I1.base
  obtain ⟨⟨oc, vs, t, goc, dd, vv⟩, _, _⟩ := I1.hok c' _ co
  refine PySem.W.callWith_F0 ⟨_, _, _, _, ob1⟩ ?_
  have run : codeAny (model X.prog X.w) (X.A.deeper (envOfC x sg s.heap.objs.size g cdg)) (.call (.ref f) ⟨[], []⟩) (CR (L2.CX X.prog X.w) (envOfC x sg s.heap.objs.size g cdg :: X.stack) X.prog X.w H1 s1 Q fun cls d H' => W cls d σZ H') s1 := by
    refine PySem.W.kla_callFunE hr.depth ob1 rfl L.co L.gen rfl ⟨c', oc, vs, t, rfl, goc, dd, vv⟩ ?_
    rw [bd]
    refine wpAny_pure (wpAny_newFunctionEnv (fun y hy => (L.own y hy).2) (fun y hy => absurd hy (by simp)) (fun h₁ ns1 sb => ⟨I1.nolimit.fresh _ sb, ?_⟩) L.kind)
    show codeAny _ _ (.expr body (lamEnv X scope s1.heap.objs.size f c')) _ _
    have kp : ∀ b o, s1.heap.get? b = some o → h₁.get? b = some o := fun b o e => sb.extBut b o (Nat.ne_of_lt (Heap.lt_size e)) (Heap.get?_push_of_some _ e)
    have J := lam_start2 (A := X.A.deeper (envOfC x sg s.heap.objs.size g cdg)) (outer := envOfC x sg s.heap.objs.size g cdg :: X.stack) (E := fun cls d H' => W cls d σZ H') (f := f) (c' := c') (h₁ := h₁) (tk := s1.toks + 0) I L I1.env0 hr.hd un ns1 kp
    refine PySem.W.kla_codeExpr (wpAny_mono ((hbody _ _ s1 H1 _ (hr.deeper _) hgd).run [] _ _ H1 Q J go) (fun v s' hq => ?_) fun e s' hq => hq)
    obtain ⟨w', H', J', rw', q⟩ := hq
    exact ⟨w', H', J'.os, J'.bare, J'.base, J'.hok, rw', q⟩
  refine wpAny_call (codeAny_mono run fun r s' hq => ?_)
  cases r with
  | error e => exact tk e s' (XE.of_call I1 (fun _ _ _ h => h) hq)
  | ok fl => cases fl with
    | ret u => exact I1.after hq
    | next => exact hq.elim
    | brk => exact hq.elim
    | cont => exact hq.elim

/-! ### the def: caught, back = None, None; try: back = look() / except E as n: caught = n; return caught, back -/
structure ToldP where
  a : Str
  x1 : Str
  x2 : Str
  n : Str
  e : Str
def ToldP.N (t : ToldP) : List Str := [t.a, t.x1, t.x2, t.n]
def ToldP.body (t : ToldP) (k1 k2 k3 : Nat) (j1 j2 : Nat) (q1 q2 q3 q4 q5 q6 q7 q8 q9 q10 q11 q12 q13 q14 q15 q16 q17 q18 q19 q20 q21 : Pos) : List Stmt :=
  [.Assign [.Tuple [.Name t.x1 q1, .Name t.x2 q2] k1 q3] (.Tuple [.Constant .none j1 q4, .Constant .none j2 q5] k2 q6) q7,
   .Try [.Assign [.Name t.x2 q8] (.Call (.Name t.a q9) [] [] q10) q11] [.ExceptHandler (some (.Name t.e q12)) (some t.n) [.Assign [.Name t.x1 q13] (.Name t.n q14) q15] q16] [] [] q17,
   .Return (some (.Tuple [.Name t.x1 q18, .Name t.x2 q19] k3 q20)) q21]
def plainB (x : Str) : Bool := !(x == ("__debug__" : Str)) && !(x == ("__classdict__" : Str))
structure ToldP.Ok (t : ToldP) (sg : Scope) : Prop where
  nd : t.N.Nodup
  loc : ∀ y ∈ t.N, sg.names.lookup y = some .local
  glo : sg.names.lookup t.e = some .globalImplicit
  pl : (t.e :: t.N).all plainB = true
  kd : sg.kind = .function
theorem plainB_ok {x : Str} (h : plainB x = true) : (x == ("__debug__" : Str)) = false ∧ (x == ("__classdict__" : Str)) = false := by
  simpa [plainB] using h
/-- what the def makes of the lambda's reading -/
def TToldA (K : PySem.W.Frag) (CS : Addr) (tl : XK → Hp → VK → Prop) (H : Hp) (Q : VK) : Prop := ∀ p0 o0, H p0 = none → o0.dict = none →
  tl (fun cls d H' => PySem.W.exmOne K cls (.ref CS) = some true ∧ ∀ (a : Addr) (oe : Obj), H' a = none → Zc cls d oe → (∃ vs, oe.data = .fields vs) →
      ∃ dx fs, d = some dx ∧ H' dx = some (.xd fs) ∧ ∀ od p o, upd (upd H' dx (.frz od (.xd fs))) a (.frz oe (.ext fun h => h.get? a = some oe)) p = none → o.dict = none → Q (.ref p) (upd (upd (upd H' dx (.frz od (.xd fs))) a (.frz oe (.ext fun h => h.get? a = some oe))) p (.frz o (.tup [.ref a, .non]))))
    (upd H p0 (.frz o0 (.tup [.non, .non]))) (fun v H' => ∀ p o, H' p = none → o.dict = none → Q (.ref p) (upd H' p (.frz o (.tup [.non, v]))))
theorem told_body {t : ToldP} {x : Str} {sg : Scope} {g CS f c' : Addr} {cdg : Value} {tl : XK → Hp → VK → Prop} {Q : VK} {k1 k2 k3 j1 j2 : Nat} {q1 q2 q3 q4 q5 q6 q7 q8 q9 q10 q11 q12 q13 q14 q15 q16 q17 q18 q19 q20 q21 : Pos}
    (ok : t.Ok sg) (mg : X.mg t.e = some (.ref CS)) (calm : X.calm = true)
    (act : ∀ (W : WX) (pn : List (Addr × Obj)) (xe : Value → Shared → Prop) (p1 p2 : Pos), Takes ((toldCx X t.N x sg g cdg s H).tr pn xe) W →
      PE ((toldCx X t.N x sg g cdg s H).tr pn xe) (.Call (.Name t.a p1) [] [] p2) (fun σZ HZ Q => σZ[0]? = some (some (.ref f)) ∧ HZ c' = some (CodeO c' (lamQ X)) ∧ tl (fun cls d H' => W cls d σZ H') HZ Q))
    (mono : ∀ {E E' : XK} {Q Q' : VK} {H' : Hp}, (∀ cls d H1, E cls d H1 → E' cls d H1) → (∀ v H1, Q v H1 → Q' v H1) → tl E H' Q → tl E' H' Q')
    (co : H c' = some (CodeO c' (lamQ X))) (go : TToldA X.K CS tl H Q) :
    ∃ tt, PSs (toldCx X t.N x sg g cdg s H) (t.body k1 k2 k3 j1 j2 q1 q2 q3 q4 q5 q6 q7 q8 q9 q10 q11 q12 q13 q14 q15 q16 q17 q18 q19 q20 q21) tt ∧ tt { nx := fun _ H' => Q .non H', rt := Q } (L2.start t.N [.ref f]) H := by
  obtain ⟨a, x1, x2, n, e⟩ := t
  have lo : ∀ y ∈ [a, x1, x2, n], Loc sg y := fun y hy => .inl (ok.loc y hy)
  have pl : ∀ y ∈ (e :: [a, x1, x2, n]), (y == ("__debug__" : Str)) = false ∧ (y == ("__classdict__" : Str)) = false := fun y hy => plainB_ok (List.all_eq_true.mp ok.pl y hy)
  let Z := toldCx X [a, x1, x2, n] x sg g cdg s H
  have ndN : Z.N.Nodup := ok.nd
  have l1 := ok.loc x1 (by simp [ToldP.N]); have l2 := ok.loc x2 (by simp [ToldP.N]); have ln := ok.loc n (by simp [ToldP.N])
  have hv : ∀ y ∈ [a, x1, x2, n], Vis sg y := fun y hy => .inl (ok.loc y hy)
  have sw : swappedStores [.Tuple [.Name x1 q1, .Name x2 q2] k1 q3] (.Tuple [.Constant .none j1 q4, .Constant .none j2 q5] k2 q6) Z.env = pure none := by
    unfold swappedStores
    dsimp only
    split
    · rfl
    · split
      · rfl
      · split
        · rfl
        · rfl
  have s1 := ps_asg (X := Z) (pos := q7) (pe_tupN (pos := q6) (k := k2) (pa_cons (pe_non (pos := q4) (j := j1)) (pa_cons (pe_non (pos := q5) (j := j2)) pa_nil)))
    (pg_tup (pos := q3) (k := k1) rfl (pgs_cons (pg_name (pos := q1) (i := 1) ndN rfl (lo x1 (by simp)) (.inr l1)) (pgs_cons (pg_name (pos := q2) (i := 2) ndN rfl (lo x2 (by simp)) (.inr l2)) pgs_nil))) rfl sw
  have s2 := try_kept (X := Z) (i := 3) (x := e) (n := n) (c := .ref CS) (b₀ := .Assign [.Name x1 q13] (.Name n q14) q15) (suite := []) (np := q12) (pos' := q16) (pos := q17) rfl rfl rfl ndN rfl ln ⟨ok.glo, (pl e (by simp)).1, .inl mg⟩
    (fun W pn xe tk _ => pss_cons (ps_set (X := Z.tr pn xe) (i := 2) (pos := q11) (pos' := q8) ndN rfl (lo x2 (by simp)) (act W pn xe q9 q10 tk) rfl (.inr l2)) pss_nil)
    (fun a' oe cls d pn _ _ => pss_cons (ps_set (i := 1) (pos := q15) (pos' := q13) ndN rfl (lo x1 (by simp)) (pe_var (pos := q14) (i := 3) rfl (hv n (by simp)) (pl n (by simp)).1 (pl n (by simp)).2) rfl (.inr l1)) pss_nil)
  have s3 := ps_ret (X := Z) (pos := q21) (pe_tupN (pos := q20) (k := k3) (pa_cons (pe_var (pos := q18) (i := 1) rfl (hv x1 (by simp)) (pl x1 (by simp)).1 (pl x1 (by simp)).2) (pa_cons (pe_var (pos := q19) (i := 2) rfl (hv x2 (by simp)) (pl x2 (by simp)).1 (pl x2 (by simp)).2) pa_nil)))
  refine ⟨_, pss_cons s1 (pss_cons s2 (pss_cons s3 pss_nil)), ?_⟩
  refine ⟨by show 2 ≤ sizeLine; rw [sizeLine_eq]; decide, fun p0 o0 hp ho => ⟨p0, [.non, .non], rfl, .inl (.inr ⟨o0, upd_same⟩), rfl, .non, [.non], rfl, .non, [], rfl, rfl, ?_⟩⟩
  have e2 : Ext H (upd H p0 (.frz o0 (.tup [.non, .non]))) := Ext.new hp
  refine ⟨rfl, e2.keep _ _ co (by unfold CodeO; exact True.intro), ?_⟩
  refine mono (fun cls d H1 ⟨k1, k2⟩ => ⟨k1, fun b oe nb zc dd => ?_⟩) (fun v H1 k => ?_) (go p0 o0 hp ho)
  · exact ⟨.non, rfl, v, rfl, by show 2 ≤ sizeLine; rw [sizeLine_eq]; decide, fun p o hp' ho' => k p o hp' ho'⟩
  · obtain ⟨dx, fs, k3, k4, k5⟩ := k2 b oe nb zc dd
    refine ⟨.ref b, rfl, fun _ => ⟨dx, fs, k3, k4, fun od => ⟨.ref b, rfl, .non, rfl, by show 2 ≤ sizeLine; rw [sizeLine_eq]; decide, fun p o hp' ho' => ?_⟩⟩⟩
    exact k5 od p o hp' ho'
end
end Eg
set_option Elab.async false
set_option linter.all false
set_option maxRecDepth 100000
set_option maxHeartbeats 4000000
/-! the engine: told(lambda: ..), the call -/
namespace Eg
open PySem PySem.Spec PyProof.Rows L2 LamX
section
variable {W : Wd} {Wx : WX} {X : Cx}
theorem Ext.ofN {H H1 : Hp} (e : ExtN H H1) : Ext H H1 := ⟨fun a o h z => e a o h fun ps w => by subst w; exact z⟩
theorem RelP.lam {C : Fx} {ρ : Env} {σ : L2.St} {H H1 : Hp} {fp ex : List Addr} (r : RelP W C ρ σ H fp ex) (e : ExtN H H1) (dm : ∀ b, H b ≠ none → H1 b ≠ none) (tb : Tabs W.T H1) : RelP W C ρ σ H1 fp ex := by
  refine ⟨r.slots.ext (Ext.ofN e) fun a m => ?_, r.nd, r.own, fun b o g n nt => e b o (r.frame b o g n nt) nt, fun b g => dm b (r.dom b g), r.fix, tb⟩
  obtain ⟨o, h1, h2⟩ := live_ntbl (r.slots.live a m)
  rw [h1]; exact e a o h1 h2
/-- the classes that except clauses name -/
structure XmOk (W : Wd) (S : Stat) : Prop where
  xm : ∀ k c, k < S.nC → c < S.nC → S.isX k = true → S.sub k c = true → PySem.W.exmOne W.K (.ref (W.cA k)) (.ref (W.cA c)) = some true
/-- what the def that is handed a lambda is -/
structure ToldAt (X : Cx) (t : ToldP) (x : Str) (g CS : Addr) : Prop where
  fn : ∃ (pg : Arguments) (bg : List Stmt) (sg : Scope) (dV kV doc pm cdv ct oc : Value) (an od : Option Addr) (osl : Array (Option Value)),
    X.K.lookup g = some ⟨oc, od, .func (PySem.W.fnOf x x pg bg sg dV kV doc pm an cdv ct), osl⟩ ∧ PySem.W.codeIn X.K cdv x = true ∧ L2.Binds X.K (PySem.W.fnOf x x pg bg sg dV kV doc pm an cdv ct) [t.a] [] ∧ FnScope t.N [t.a] sg ∧ t.Ok sg ∧
    ∃ (k1 k2 k3 j1 j2 : Nat) (q1 q2 q3 q4 q5 q6 q7 q8 q9 q10 q11 q12 q13 q14 q15 q16 q17 q18 q19 q20 q21 : Pos), bg = t.body k1 k2 k3 j1 j2 q1 q2 q3 q4 q5 q6 q7 q8 q9 q10 q11 q12 q13 q14 q15 q16 q17 q18 q19 q20 q21
  kp : PySem.W.keepIn X.K (.ref g) = true
  mg : X.mg x = some (.ref g)
  me : X.mg t.e = some (.ref CS)
/-- where lambdas are made: the code object, its table -/
structure LamAt (W : Wd) (X : Cx) : Prop where
  ok : ∃ c P, TabB X.base X.mg c P ∧ X.env.code = .ref c ∧ (P, lamQ X) ∈ W.T ∧ ∀ p ∈ W.T, p.1 = P → p.2 = lamQ X
theorem xd_own {H : Hp} {a : Addr} {u : HO} (h : H a = some u) {b : Addr} (n : H b = none) : a ≠ b := fun z => by rw [z, n] at h; cases h
theorem sb_told {S : Stat} {t : ToldP} {x : Str} {g : Addr} {c k : Nat} {params : Arguments} {body : Expr} {scope : Scope} {eb : Env → Out D} {p lpos pos : Pos} (gx : GX W Wx X) (wo : WOk W S) (xo : XmOk W S) (ta : ToldAt X t x g (W.cA c)) (la : LamAt W X) (hg : Gl X x) (hdb : (x == ("__debug__" : Str)) = false)
    (hr : Room (k + 2) X.A) (L : LamS X.env.scope scope) (nodef : defaultsOf params X.env = ([], []))
    (bd : ∀ (q : Str) (cl : List (Str × Addr)) (pm cv ctv : Value), bindArgs (PySem.W.kla_fn "<lambda>" q params body scope cl pm cv ctv) ⟨[], []⟩ = pure [])
    (hbody : ∀ (A : Around) (outer : List PySem.Env) (s : Shared) (H : Hp) (E : XK) (f c' : Addr), Room k (A.deeper (lamEnv X scope s.heap.objs.size f c')) → A.guards = some [] → PE (lamCx X A outer s H E scope f c') body (tD W (fun cls d _ H => E cls d H) eb)) :
    PE X (.Call (.Name x p) [.Lambda params body scope lpos] [] pos) (tE W Wx fun ρ => toldO S c (eb ρ)) := by
  refine ⟨fun pins s σ H Q I ⟨C, ρ, ⟨fp, rel⟩, q⟩ => ?_⟩
  obtain ⟨pg, bg, sg, dV, kV, doc, pm, cdv, ct, oc, an, od, osl, lk, hcd, hb, Sg, ok, k1, k2, k3, j1, j2, q1, q2, q3, q4, q5, q6, q7, q8, q9, q10, q11, q12, q13, q14, q15, q16, q17, q18, q19, q20, q21, rfl⟩ := ta.fn
  obtain ⟨cc, P, TB, hcode, mem, uni⟩ := la.ok
  refine wpAny_Call_Name_kw (ld_glob I hg ta.mg ?_ hdb)
  refine PySem.W.callWith_K (h₀ := X.base) I.ok.mod.kin ta.kp ?_ (by rfl) (by rfl)
  show wpAny _ _ (spliced ((false, eval (.Lambda params body scope lpos) X.env) :: backTo pos (starEach [] X.env))) _ _ s
  refine Calls.spliced_cons (lam_mk I TB hcode mem uni rel.tabs nodef (L.has I.ok) fun f c' pm' ctv H1 s' M => Calls.spliced_nil ⟨M.inv.kIn, ?_⟩)
  have r1 : RelP W C ρ σ H1 fp [] := rel.lam M.ext M.dom M.tab
  have e1 : Ext H H1 := Ext.ofN M.ext
  have rc : codeAny (model X.prog X.w) X.A (.call (.ref g) ⟨[.ref f], []⟩) (CR (L2.CX X.prog X.w) X.stack X.prog X.w H1 s' Q fun _ _ _ => False) s' := by
    refine run_ofS (N := t.N) (ps := [t.a]) (us := [.ref f]) (vs := [.ref f]) lk hcd Sg hr M.inv.env0 (hb s' [.ref f] M.inv.kIn rfl) (.cons rfl .nil) rfl fun hr' => ?_
    have pa : plainB t.a = true := List.all_eq_true.mp ok.pl t.a (by simp [ToldP.N])
    refine told_body (f := f) (c' := c') (CS := W.cA c) (tl := fun E H' Q' => tD W (fun cls d _ H => E cls d H) eb σ H' Q') ok ta.me gx.calm (fun W' pn xe p1 p2 tk => ?_) (fun {E E' Q Q' H'} hE hQ h => ?_) M.cod (fun p0 o0 hp ho => ?_)
    · exact lam_run (i := 0) (tb := fun E => tD W (fun cls d _ H => E cls d H) eb) M.inv L M.obj M.fre M.nfr (bd _ _ _ _ _) tk hr' gx.hg (fun A outer s H E hr2 hg2 => hbody A outer s H E f c' hr2 hg2) rfl (.inl (ok.loc t.a (by simp [ToldP.N]))) (plainB_ok pa).1 (plainB_ok pa).2
    · obtain ⟨C', ρ', rl, w⟩ := h
      refine ⟨C', ρ', rl, ?_⟩
      cases eo : eb ρ' with
      | bad => rw [eo] at w; exact w
      | ok d ρ1 => rw [eo] at w; exact fun v H2 e2 r2 p2 => hQ _ _ (w v H2 e2 r2 p2)
      | exc d ρ1 => rw [eo] at w; exact fun cls dx H2 e2 rx r2 => hE _ _ _ (w cls dx H2 e2 rx r2)
    · have r2 := r1.new hp (o := .frz o0 (.tup [.non, .non])) fun _ z => nomatch z
      have e2 : Ext H (upd H1 p0 (.frz o0 (.tup [.non, .non]))) := e1.trans (Ext.new hp)
      replace q : wE W C Wx (toldO S c (eb ρ)) σ H Q := q
      refine ⟨C, ρ, ⟨fp, r2⟩, ?_⟩
      cases eo : eb ρ with
      | bad => rw [eo] at q; exact q.elim
      | ok d ρ1 =>
        rw [eo] at q
        intro v H2 e3 r3 p3 pp oo hpp hoo
        obtain ⟨k1, k2⟩ := (ResT.newTup hpp hoo (.cons .non (.cons p3 .nil))).rel r3
        exact q _ _ ((e2.trans e3).trans k1) k2
      | exc d ρ1 =>
        rw [eo] at q
        intro cls dx H2 e3 rx r3
        cases d with
        | exc kx d' =>
          simp only [toldO] at q
          split at q
          · rename_i hc
            simp only [Bool.and_eq_true, decide_eq_true_eq] at hc
            obtain ⟨⟨⟨h1, h2⟩, h3⟩, h4⟩ := hc
            obtain ⟨ec, b, v, edx, hb2, rp, gb⟩ := rx
            subst ec edx
            refine ⟨gx.hK ▸ xo.xm kx c h1 h2 h3 h4, fun a oe na zc dd => ⟨b, _, rfl, hb2, fun od pp oo hpp hoo => ?_⟩⟩
            have nab : b ≠ a := xd_own hb2 na
            obtain ⟨fp3, r3⟩ := r3
            have el : Ext H2 (upd H2 b (.frz od (.xd [("value", v)]))) := ⟨fun y o h z => by
              rw [upd_ne fun w => ?_]; exact h
              rw [w, hb2] at h; cases h; exact z⟩
            have na2 : upd H2 b (.frz od (.xd [("value", v)])) a = none := by rw [upd_ne (Ne.symm nab)]; exact na
            have e4 : Ext (upd H2 b (.frz od (.xd [("value", v)]))) (upd (upd H2 b (.frz od (.xd [("value", v)]))) a (.frz oe (.ext fun h => h.get? a = some oe))) := Ext.new na2
            have r4 : RelP W C ρ1 σ (upd H2 b (.frz od (.xd [("value", v)]))) fp3 [] := by
              refine ⟨r3.slots.ext el fun y m => ?_, r3.nd, r3.own, fun y o g n nt => ?_, fun y g => ?_, r3.fix, Tabs.keep r3.tabs el fun y ps g => ?_⟩
              · obtain ⟨o, h1, _⟩ := live_ntbl (r3.slots.live y m)
                rw [upd_ne fun w => ?_]
                rw [w] at m
                rcases r3.slots.live b m with ⟨_, z⟩ | ⟨_, z⟩ | ⟨_, _, _, z⟩ <;> rw [hb2] at z <;> cases z
              · rw [upd_ne fun w => ?_]; exact r3.frame y o g n nt
                rw [w, gb] at g; cases g
              · by_cases w : y = b
                · rw [w, upd_same]; exact fun z => nomatch z
                · rw [upd_ne w]; exact r3.dom y g
              · rw [upd_ne fun w => ?_]; exact g
                rw [w, hb2] at g; cases g
            have r5 : Rel W C ρ1 σ (upd (upd H2 b (.frz od (.xd [("value", v)]))) a (.frz oe (.ext fun h => h.get? a = some oe))) := Rel.new ⟨fp3, r4⟩ na2 fun _ z => nomatch z
            have rx : Rep W (upd (upd H2 b (.frz od (.xd [("value", v)]))) a (.frz oe (.ext fun h => h.get? a = some oe))) (.exc kx d') (.ref a) :=
              .exc (v := v) ⟨oe, b, ⟨oe, upd_same⟩, zc.1, zc.2, dd, ⟨od, by rw [upd_ne nab, upd_same]⟩⟩ (rp.ext (el.trans e4))
            obtain ⟨k1, k2⟩ := (ResT.newTup hpp hoo (.cons rx (.cons .non .nil))).rel r5
            exact q _ _ ((((e2.trans e3).trans el).trans e4).trans k1) k2
          · exact q.elim
        | _ => exact q.elim
  refine wpAny_call (codeAny_mono rc fun r s2 hq => ?_)
  cases r with
  | error e =>
    obtain ⟨_, _, _, _, _, _, _, _, _, _, _, _, z⟩ := hq
    exact z.elim
  | ok fl => cases fl with
    | ret u => exact M.inv.after hq
    | next => exact hq.elim
    | brk => exact hq.elim
    | cont => exact hq.elim
end
end Eg
set_option Elab.async false
set_option linter.all false
set_option maxRecDepth 100000
set_option maxHeartbeats 4000000
/-! the engine: instances made, their fields stored -/
namespace Eg
open PySem PySem.Spec PyProof.Rows L2
section
variable {W : Wd} {Wx : WX} {X : Cx} {pos p : Pos}
/-- a class that is made -/
structure MkAt (W : Wd) (X : Cx) (S : Stat) (F : Nat → Env → OutF) (c : Nat) : Prop where
  ok : ∃ f fa, S.init c = some f ∧ Mk X.K (W.cA c) fa ∧ FnAt W X F f fa
theorem under_guards {A : Around} {C : Addr} {us : List Value} (h : A.guards = some []) : (A.under (.builtin "type.__call__" ⟨.ref C :: us, []⟩)).guards = some [] := by
  first | exact h | simpa [Around.under, Code.envs, Code.isFrame, pushEnvs] using h
theorem run_mk {S : Stat} {pins : List (Addr × Obj)} {σ : L2.St} {H : Hp} {s : Shared} {Q : VK} {C : Fx} {ρ : Env} {as : List Ar} {vs : List V} {us : List Value} {F : Nat → Env → OutF} {c : Nat} (g : GX W Wx X) (M : MkAt W X S F c) (I : Inv X pins σ H s) (r : Vals vs us)
    (rel : RelA W C ρ σ H as vs) (q : wE W C Wx (makeF S F c as ρ) σ H Q) : wpAny (model X.prog X.w) X.A (call (.ref (W.cA c)) us) (EP X pins σ Q) X.xe s := by
  obtain ⟨f, fa, hi, mk, A⟩ := M.ok
  obtain ⟨k, fd, ps, FE, hr, hb⟩ := A.ok
  unfold makeF at q
  rw [hi] at q
  cases ea : arSl ρ as with
  | none => rw [ea] at q; exact q.elim
  | some z =>
    obtain ⟨args, o⟩ := z
    rw [ea] at q
    cases o with
    | some _ => exact q.elim
    | none =>
      simp only at q
      obtain ⟨fp, ex, ar, rl⟩ := rel
      obtain ⟨rfl, sl⟩ := arSl_none rl.slots ar ea
      have nd' : H s.heap.objs.size = none := I.hok.fresh (Nat.le_refl _)
      have nx' : H (s.heap.objs.size + 1) = none := I.hok.fresh (Nat.le_succ _)
      have I2 := Inv.made (C := W.cA c) I
      generalize hx : s.heap.objs.size + 1 = x at *
      generalize hd : s.heap.objs.size = dx at *
      have ne : x ≠ dx := by omega
      have nx2 : upd H dx (.own x) x = none := by rw [upd_ne ne]; exact nx'
      have e1 : Ext H (upd H dx (.own x)) := Ext.new nd'
      have e2 : Ext (upd H dx (.own x)) (upd (upd H dx (.own x)) x (.ins (W.cA c) dx [])) := Ext.new nx2
      have r2 : RelP W C ρ σ (upd (upd H dx (.own x)) x (.ins (W.cA c) dx [])) fp [] := (rl.new (o := .own x) nd' fun _ z => nomatch z).new (o := .ins (W.cA c) dx []) nx2 fun _ z => nomatch z
      have r3 : RelP W C ρ σ (upd (upd H dx (.own x)) x (.ins (W.cA c) dx [])) fp [x] := by
        refine ⟨r2.slots, ?_, fun a m => ?_, r2.frame, r2.dom, r2.fix, r2.tabs⟩
        · have := r2.nd
          simp only [List.append_nil] at this
          refine List.nodup_append.mpr ⟨this, by simp, fun a m b m' z => ?_⟩
          have : b = x := by simpa using m'
          subst this; subst z
          obtain ⟨o, h1, _⟩ := live_ntbl (rl.slots.live a m)
          rw [nx'] at h1; cases h1
        · rcases List.mem_append.mp m with m | m
          · exact r2.own a (by simp [m])
          · have : a = x := by simpa using m
            subst this
            exact .inr (rl.fresh nx')
      have slA : SlRs W (upd (upd H dx (.own x)) x (.ins (W.cA c) dx [])) (.own (.ins c []) :: args) ((V.ref x :: vs).map some) [x] := by
        have h1 : SlRs W (upd (upd H dx (.own x)) x (.ins (W.cA c) dx [])) args (vs.map some) [] := sl.ext (e1.trans e2) fun a m => by cases m
        exact .cons (.own (.ins (dx := dx) (vs := []) (by rw [List.zip_nil_right]; exact upd_same) .nil (by simp))) h1
      have tabs := r2.tabs
      have nb : F f (.own (.ins c []) :: args) ≠ .bad := fun z => by rw [z] at q; exact q.elim
      have hl : (Value.ref x :: us ++ []).length = ps.length := by
        rw [List.append_nil, ← FE.len _ nb, List.length_cons, List.length_cons, ← r.length]
        have := sl.length
        rw [List.length_map] at this
        rw [this]
      have hq : wF W (V.ref x :: vs) (upd (upd H dx (.own x)) x (.ins (W.cA c) dx [])) [x] (F f (.own (.ins c []) :: args)) (fun v H' => v = .non ∧ Q (.ref x) H') (fun cls d H' => Wx cls d σ H') := by
        cases ef : F f (.own (.ins c []) :: args) with
        | bad => exact absurd ef nb
        | exc d fin =>
          rw [ef] at q
          intro cls dd H' rx pc
          exact q cls dd H' ((e1.trans e2).trans pc.ext) (rx.to fun a z => r2.fresh z) ⟨fp, (back_plain r3 pc)⟩
        | ret t fin =>
          rw [ef] at q
          intro v H' ft ow pc
          cases t with
          | fr dd =>
            cases dd with
            | non =>
              cases fin with
              | nil => exact q.elim
              | cons s0 fin =>
                cases s0 with
                | own t' =>
                  simp only at q
                  obtain ⟨rv, rfl⟩ := own_fr ow
                  cases rv
                  obtain ⟨fs, s1, s2, s3⟩ := pc.own
                  cases s1 with
                  | @cons _ _ _ _ g1 g2 h1 hs =>
                    cases h1 with
                    | own h1 =>
                      refine ⟨rfl, q _ H' ((e1.trans e2).trans pc.ext) ⟨fp, g1, h1, ?_⟩⟩
                      refine back_plain (vs := []) (fin := []) r3 ⟨pc.ext, pc.keep, pc.dom, pc.tabs, [], .nil, ?_, fun a m => s3 a (by simp at m ⊢; simp [m])⟩
                      have := (List.nodup_append.mp s2).1
                      exact (List.nodup_append.mp this).1
                | _ => exact q.elim
            | _ => exact q.elim
          | _ => exact q.elim
      have hbb := hb { s with heap := (s.heap.push PySem.W.emptyDict).push (PySem.W.instObj (W.cA c) dx) } (Value.ref x :: us) I2.kIn hl
      rw [List.append_nil] at hbb
      refine wpAny_call (make_map (f := fa) I.kIn mk.makes mk.init (beq_iff_eq.mp mk.fn) ?_)
      rw [hd, hx]
      refine codeAny_mono (FE.run (X.A.under (.builtin "type.__call__" ⟨.ref (W.cA c) :: us, []⟩)) X.stack _ _ ⟨Value.ref x :: us, []⟩ (Value.ref x :: us) (V.ref x :: vs) (.own (.ins c []) :: args) [x] _ _ (hr.make _ us []) (under_guards g.hg) ((inv_env0 g.hK I2).make _ us []) hbb (.cons rfl r) slA (by simp) tabs hq) fun rr s' hq' => ?_
      cases rr with
      | error e => exact g.tk e s' (XE.of_call I2 (fun _ _ _ h => h) hq')
      | ok fl =>
        cases fl with
        | ret u =>
          obtain ⟨v, H', I3, rv, ev, q3⟩ := I2.after hq'
          subst ev
          exact ⟨rv, ⟨V.ref x, H', I3, rfl, q3⟩⟩
        | next => exact hq'.elim
        | brk => exact hq'.elim
        | cont => exact hq'.elim
variable {e : Expr} {es : List Expr} {eas : Env → Out (List Ar)}
/-- C(..) -/
theorem sb_make {S : Stat} {x : Str} {F : Nat → Env → OutF} {c : Nat} (g : GX W Wx X) (M : MkAt W X S F c) (hg : Gl X x) (hm : X.mg x = some (.ref (W.cA c))) (hdb : (x == ("__debug__" : Str)) = false) (hs : ((e :: es).all fun e => !isStar e) = true) (ha : PA X (e :: es) (tAs W Wx eas)) :
    PE X (.Call (.Name x p) (e :: es) [] pos) (tE W Wx fun ρ => (eas ρ).bind fun as ρ => makeF S F c as ρ) := by
  refine ⟨fun pins s σ H Q I ⟨C, ρ, rel, q⟩ => wpAny_Call_Name_kw (ld_glob I hg hm ?_ hdb)⟩
  simp only [List.all_cons, Bool.and_eq_true, Bool.not_eq_true'] at hs
  have kp : PySem.W.keepIn X.K (.ref (W.cA c)) = true := let ⟨_, _, _, mk, _⟩ := M.ok; mk.kp
  refine PySem.W.callWith_K (h₀ := X.base) I.ok.mod.kin kp (thn (ha.run pos pins s σ H _ I ⟨C, ρ, rel, as_go q⟩) ?_) (plain_star (isStar_ne hs.1)) (nostar_any hs.2)
  rintro us s1 ⟨vs, H1, I1, r, as, ρ1, ra, q1⟩
  exact ⟨I1.kIn, run_mk g M I1 r ra q1⟩

/-! ### fields -/
/-- e.f as a target -/
def gFld (K : PySem.W.Frag) (ta : TE) (f : Str) : TG := fun v σ H Q => ta σ H fun x H1 => ∃ a C dx fs, x = .ref a ∧ H1 a = some (.ins C dx fs) ∧ Cls K C ∧ NoAttr K C f ∧ fs.length < 1000 ∧ Q σ (upd H1 a (.ins C dx (L2.putF f v fs)))
theorem pg_fld {o : Expr} {f : Str} {ta : TE} (ho : PE X o ta) : PG X (.Attribute o f pos) (gFld X.K ta f) := by
  refine ⟨fun pins s σ H v u Q I r h => ?_⟩
  rw [assign_Attribute]
  refine wpAny_bind (wpAny_holding (thn (ho.run pins s σ H _ I h) ?_))
  rintro ov s1 ⟨x, H1, I1, rx, a, C, dx, fs, ex, ea, c, n, l, q⟩
  subst ex
  cases (show ov = Value.ref a from rx)
  exact wpAny_bind (wpAny_standAt (wpAny_bind (wpAny_holding (setattr_ok I1 ea c n l r fun s2 I2 => wpAny_release ⟨σ, _, I2, q⟩))))
theorem zip_putF {f : Str} {v : V} : ∀ {fl : List Str} {vs : List V} {k : Nat}, fl.Nodup → fl[k]? = some f → vs.length ≤ fl.length →
    (k < vs.length → L2.putF f v (fl.zip vs) = fl.zip (vs.set k v)) ∧ (k = vs.length → L2.putF f v (fl.zip vs) = fl.zip (vs ++ [v]))
  | [], _, _, _, h, _ => by simp at h
  | g :: fl, [], k, nd, h, _ => by
    refine ⟨fun z => absurd z (Nat.not_lt_zero _), fun z => ?_⟩
    have z : k = 0 := z
    subst z
    simp at h; subst h
    simp [L2.putF]
  | g :: fl, w :: vs, 0, nd, h, _ => by
    simp at h; subst h
    exact ⟨fun _ => by simp [L2.putF], fun z => by simp at z⟩
  | g :: fl, w :: vs, k + 1, nd, h, hl => by
    have hne : g ≠ f := fun z => (List.nodup_cons.mp nd).1 (z ▸ List.mem_of_getElem? (by simpa using h))
    obtain ⟨i1, i2⟩ := zip_putF (v := v) (vs := vs) (k := k) (List.nodup_cons.mp nd).2 (by simpa using h) (by simpa using hl)
    refine ⟨fun z => ?_, fun z => ?_⟩
    · simp only [List.zip_cons_cons, L2.putF, if_neg hne, List.set_cons_succ]
      rw [i1 (by simpa using z)]
    · simp only [List.zip_cons_cons, L2.putF, if_neg hne, List.cons_append]
      rw [i2 (by simpa using z)]
/-- an own instance is written -/
theorem Rel.updIns {C : Fx} {ρ : Env} {σ : L2.St} {H : Hp} {i c : Nat} {ts : List T} (rel : Rel W C ρ σ H) (e : ρ[i]? = some (.own (.ins c ts))) : ∃ a dx vs, σ[i]? = some (some (.ref a)) ∧ H a = some (.ins (W.cA c) dx ((W.fl c).zip vs)) ∧ vs.length ≤ (W.fl c).length ∧ ts.length = vs.length ∧
    ∀ ts' vs', vs'.length ≤ (W.fl c).length → (∀ fp, Owns W H ts vs fp → ∃ fp', Owns W H ts' vs' fp' ∧ fp'.Sublist fp) → Ext H (upd H a (.ins (W.cA c) dx ((W.fl c).zip vs'))) ∧ Rel W C (ρ.set i (.own (.ins c ts'))) σ (upd H a (.ins (W.cA c) dx ((W.fl c).zip vs'))) := by
  obtain ⟨fp, r⟩ := rel
  obtain ⟨o, f1, f2, f3, h1, h2, h3, h4⟩ := r.slots.at e
  cases h3 with
  | own ow =>
    cases ow with
    | ins ha os hle =>
      rename_i a dx vs fpo
      subst h2
      have nd := r.nd
      simp only [List.append_nil] at nd
      obtain ⟨n1, n2, n3⟩ := List.nodup_append.mp nd
      obtain ⟨m1, m2, m3⟩ := List.nodup_append.mp n2
      obtain ⟨k1, k2⟩ := List.nodup_cons.mp m1
      refine ⟨a, dx, vs, h1, ha, hle, os.length, fun ts' vs' hle' tr => ?_⟩
      obtain ⟨fp', os', sub⟩ := tr fpo os
      have lv : Live H a := .inr (.inr ⟨_, _, _, ha⟩)
      have ex : Ext H (upd H a (.ins (W.cA c) dx ((W.fl c).zip vs'))) := Ext.upd lv
      have ko : ∀ b ∈ f1 ++ f3, upd H a (.ins (W.cA c) dx ((W.fl c).zip vs')) b = H b := fun b m => upd_ne fun z => by
        subst z
        rcases List.mem_append.mp m with m | m
        · exact n3 b m b (by simp) rfl
        · exact m3 b (by simp) b m rfl
      have os2 : Owns W (upd H a (.ins (W.cA c) dx ((W.fl c).zip vs'))) ts' vs' fp' := os'.ext ex fun b m => upd_ne fun z => k1 (z ▸ sub.subset m)
      have sl := h4 _ (.own (.ins c ts')) (some (.ref a)) (a :: fp') ex ko (.own (.ins upd_same os2 hle'))
      rw [set_same h1] at sl
      have sub2 : (f1 ++ (a :: fp' ++ f3)).Sublist (f1 ++ (a :: fpo ++ f3)) := List.Sublist.append (List.Sublist.refl _) (List.Sublist.append (List.Sublist.cons₂ a sub) (List.Sublist.refl _))
      refine ⟨ex, _, sl, by simpa using nd.sublist sub2, fun b m => r.own b ?_, fun b u g n nt => ?_, fun b g => ?_, r.fix, Tabs.keep r.tabs ex fun b ps g => ?_⟩
      · simp only [List.append_nil] at m ⊢
        exact sub2.subset m
      · rw [upd_ne fun z => ?_]; exact r.frame b u g n nt
        subst z
        rcases r.own b (by simp) with y | y
        · exact n y
        · rw [g] at y; cases y
      · by_cases z : b = a
        · rw [z, upd_same]; exact fun z => nomatch z
        · rw [upd_ne z]; exact r.dom b g
      · rw [upd_ne fun z => ?_]; exact g
        rw [z, ha] at g; cases g
theorem Owns.snoc {H : Hp} {d : D} {v : V} (q : Rep W H d v) {ts : List T} {vs : List V} {fp : List Addr} (h : Owns W H ts vs fp) : Owns W H (ts ++ [.fr d]) (vs ++ [v]) fp := by
  have := h.append (.cons (.fr q) .nil)
  simpa using this
/-- one field is stored -/
theorem put_fld {S : Stat} {nm : Nat → Str} {C : Fx} {ρ : Env} {σ : L2.St} {H : Hp} {i c n : Nat} {ts ts' : List T} {d : D} {v : V} (g : GX W Wx X) (fo : FldOk W S nm) (rel : Rel W C ρ σ H) (e : ρ[i]? = some (.own (.ins c ts))) (rp : Rep W H d v) (hp : putF S c n d ts = some ts') :
    ∃ a dx fs, σ[i]? = some (some (.ref a)) ∧ H a = some (.ins (W.cA c) dx fs) ∧ Cls X.K (W.cA c) ∧ NoAttr X.K (W.cA c) (nm n) ∧ fs.length < 1000 ∧ Ext H (upd H a (.ins (W.cA c) dx (L2.putF (nm n) v fs))) ∧ Rel W C (ρ.set i (.own (.ins c ts'))) σ (upd H a (.ins (W.cA c) dx (L2.putF (nm n) v fs))) := by
  obtain ⟨a, dx, vs, h1, h2, h3, hlen, h4⟩ := rel.updIns e
  unfold putF at hp
  cases hf : S.fld c n with
  | none => rw [hf] at hp; cases hp
  | some k =>
    rw [hf] at hp
    obtain ⟨cl, na, hk⟩ := fo.fld c n k hf
    obtain ⟨z1, z2⟩ := zip_putF (v := v) (fo.nd c) hk h3
    have hln : ((W.fl c).zip vs).length < 1000 := by
      have := fo.ln c
      rw [List.length_zip]; omega
    refine ⟨a, dx, (W.fl c).zip vs, h1, h2, g.hK ▸ cl, g.hK ▸ na, hln, ?_⟩
    simp only at hp
    split at hp
    · rename_i hlt
      cases hp
      rw [z1 (by omega)]
      exact h4 _ _ (by rw [List.length_set]; exact h3) fun fp os => os.set rp
    · split at hp
      · rename_i heq
        cases hp
        have hkl : k < (W.fl c).length := (List.getElem?_eq_some_iff.mp hk).1
        rw [z2 (by omega)]
        exact h4 _ _ (by rw [List.length_append, List.length_singleton]; omega) fun fp os => ⟨fp, os.snoc rp, List.Sublist.refl _⟩
      · cases hp
end
end Eg
set_option Elab.async false
set_option linter.all false
set_option maxRecDepth 100000
set_option maxHeartbeats 4000000
/-! the engine: fields as targets, a, b = x, y -/
namespace Eg
open PySem PySem.Spec PyProof.Rows L2
section
variable {W : Wd} {Wx : WX} {X : Cx} {pos p q p3 : Pos} {io kp : List Nat} {e : Expr} {ed : Env → Out D}
theorem set_sameS {ρ : Env} {i : Nat} {s : Sl} (h : ρ[i]? = some s) : ρ.set i s = ρ := by
  apply List.ext_getElem?
  intro j
  by_cases z : i = j
  · subst z; rw [List.getElem?_set_self (List.getElem?_eq_some_iff.mp h).1, h]
  · rw [List.getElem?_set_ne z]
theorem get_set_self {ρ : Env} {i : Nat} {s s' : Sl} (h : ρ[i]? = some s) : (ρ.set i s')[i]? = some s' := List.getElem?_set_self (List.getElem?_eq_some_iff.mp h).1
/-- self.f = e -/
theorem ss_asgF {S : Stat} {nm : Nat → Str} {x : Str} {i n : Nat} (g : GX W Wx X) (fo : FldOk W S nm) (hN : X.N[i]? = some x) (hv : Vis X.env.scope x) (hd : (x == ("__debug__" : Str)) = false) (hcd : (x == ("__classdict__" : Str)) = false)
    (he : PE X e (tD W Wx ed)) (hs : swapsWithSole [.Attribute (.Name x p) (nm n) q] e pos.line X.env = pure false) :
    PS X (.Assign [.Attribute (.Name x p) (nm n) q] e pos) (tS W Wx io fun ρ => SO.of (ed ρ) fun d ρ => match ρ[i]? with
      | some (.own (.ins c ts)) => match putF S c n d ts with
        | some ts => .next (ρ.set i (.own (.ins c ts)))
        | none => .bad
      | _ => .bad) := by
  refine (ps_asg he (pg_fld (f := nm n) (pos := q) (pe_var (pos := p) hN hv hd hcd)) hs rfl rfl).mono fun Dn σ H ⟨C, ρ, hf, rel, w⟩ => ⟨C, ρ, rel, (wS_ofD w).imp fun v H1 ⟨d, ρ1, e1, r1, p1, q1⟩ => ?_⟩
  split at q1
  · rename_i c ts hs
    split at q1
    · rename_i ts' hp
      obtain ⟨a, dx, fs, h1, h2, h3, h4, h5, h6, h7⟩ := put_fld g fo r1 hs p1 hp
      exact ⟨.ref a, h1, a, _, dx, fs, rfl, h2, h3, h4, h5, q1 σ _ h6 h7⟩
    · exact q1.elim
  · exact q1.elim
/-- the fields as targets, from the left -/
def tGFs (W : Wd) (S : Stat) (i : Nat) (ns : List Nat) : TGs := fun vs σ H Q => ∃ C ρ ds c ts ts', Rel W C ρ σ H ∧ Reps W H ds vs ∧ ρ[i]? = some (.own (.ins c ts)) ∧ putFs S c ns ds ts = some ts' ∧ ∀ H', Ext H H' → Rel W C (ρ.set i (.own (.ins c ts'))) σ H' → Q σ H'
inductive FTs (nm : Nat → Str) (x : Str) : List Expr → List Nat → Prop where
  | nil : FTs nm x [] []
  | cons {n : Nat} {es : List Expr} {ns : List Nat} {p q : Pos} : FTs nm x es ns → FTs nm x (.Attribute (.Name x p) (nm n) q :: es) (n :: ns)
theorem pgs_fts {S : Stat} {nm : Nat → Str} {x : Str} {i : Nat} (g : GX W Wx X) (fo : FldOk W S nm) (hN : X.N[i]? = some x) (hv : Vis X.env.scope x) (hd : (x == ("__debug__" : Str)) = false) (hcd : (x == ("__classdict__" : Str)) = false) :
    ∀ {es : List Expr} {ns : List Nat}, FTs nm x es ns → PGs X es (tGFs W S i ns)
  | _, _, .nil => by
    refine ⟨fun pins s σ H vs us Q I r ⟨C, ρ, ds, c, ts, ts', rl, rs, hs, hp, k⟩ => pgs_nil.run pins s σ H vs us Q I r ?_⟩
    cases ds with
    | cons _ _ => cases hp
    | nil =>
      cases rs
      cases hp
      exact ⟨rfl, k H (Ext.refl _) (by rw [set_sameS hs]; exact rl)⟩
  | _, _, .cons (n := n) (ns := ns) (p := p) (q := q) t => by
    refine ⟨fun pins s σ H vs us Q I r ⟨C, ρ, ds, c, ts, ts', rl, rs, hs, hp, k⟩ => (pgs_cons (pg_fld (f := nm n) (pos := q) (pe_var (pos := p) hN hv hd hcd)) (pgs_fts g fo hN hv hd hcd t) rfl).run pins s σ H vs us Q I r ?_⟩
    cases ds with
    | nil => cases hp
    | cons d ds =>
      cases rs with
      | cons rp rs =>
        simp only [putFs] at hp
        obtain ⟨t1, hp1, hp2⟩ := Option.bind_eq_some_iff.mp hp
        obtain ⟨a, dx, fs, h1, h2, h3, h4, h5, h6, h7⟩ := put_fld g fo rl hs rp hp1
        refine ⟨_, _, rfl, .ref a, h1, a, _, dx, fs, rfl, h2, h3, h4, h5, C, _, ds, c, t1, ts', h7, rs.ext h6, get_set_self hs, hp2, fun H' e' r' => k H' (h6.trans e') ?_⟩
        rwa [List.set_set] at r'
theorem fts_ns {nm : Nat → Str} {x : Str} : ∀ {es : List Expr} {ns : List Nat}, FTs nm x es ns → (∀ e ∈ es, ∀ a q, e ≠ .Starred a q) ∧ es.length = ns.length
  | _, _, .nil => ⟨fun e m => (by cases m), rfl⟩
  | _, _, .cons t => by
    obtain ⟨h1, h2⟩ := fts_ns t
    refine ⟨fun e m => ?_, by simp [h2]⟩
    rcases List.mem_cons.mp m with rfl | m
    · exact fun _ _ z => nomatch z
    · exact h1 e m
theorem putFs_len {S : Stat} {c : Nat} : ∀ {ns : List Nat} {ds : List D} {ts ts' : List T}, putFs S c ns ds ts = some ts' → ns.length = ds.length
  | [], [], _, _, _ => rfl
  | [], _ :: _, _, _, h => by cases h
  | _ :: _, [], _, _, h => by cases h
  | n :: ns, d :: ds, ts, ts', h => by
    simp only [putFs] at h
    obtain ⟨t1, _, h2⟩ := Option.bind_eq_some_iff.mp h
    simp [putFs_len h2]
/-- self.f, self.g, .. = e -/
theorem ss_asgTF {S : Stat} {nm : Nat → Str} {x : Str} {i k : Nat} {es : List Expr} {ns : List Nat} (g : GX W Wx X) (fo : FldOk W S nm) (hN : X.N[i]? = some x) (hv : Vis X.env.scope x) (hd : (x == ("__debug__" : Str)) = false) (hcd : (x == ("__classdict__" : Str)) = false)
    (ft : FTs nm x es ns) (he : PE X e (tD W Wx ed)) (hs : swapsWithSole [.Tuple es k q] e pos.line X.env = pure false) (hw : swappedStores [.Tuple es k q] e X.env = pure none) :
    PS X (.Assign [.Tuple es k q] e pos) (tS W Wx io fun ρ => SO.of (ed ρ) fun d ρ => match d, ρ[i]? with
      | .tup ds, some (.own (.ins c ts)) => match putFs S c ns ds ts with
        | some ts => .next (ρ.set i (.own (.ins c ts)))
        | none => .bad
      | _, _ => .bad) := by
  obtain ⟨n1, n2⟩ := fts_ns ft
  obtain ⟨a1, a2⟩ := assignEach_one (env := X.env) n1
  refine (ps_asg he (pg_tup (pos := q) (k := k) g.calm (pgs_fts g fo hN hv hd hcd ft) a2 a1) hs hw rfl).mono fun Dn σ H ⟨C, ρ, hf, rel, w⟩ => ⟨C, ρ, rel, (wS_ofD w).imp fun v H1 ⟨d, ρ1, e1, r1, p1, q1⟩ => ?_⟩
  split at q1
  · rename_i ds c ts hs
    split at q1
    · rename_i ts' hp
      obtain ⟨a, vs, rfl, ha, ra⟩ := (WRep.rep p1).tupI
      exact ⟨a, vs, rfl, g.hK ▸ ha, by rw [← ra.length, ← putFs_len hp, n2], C, ρ1, ds, c, ts, ts', r1, ra, hs, hp, fun H' e' r' => q1 σ H' e' r'⟩
    · exact q1.elim
  · exact q1.elim

/-! ### a, b = x, y -/
/-- how the stores go: none: they are not told of -/
def swO (ct : Ct) (ts vs : List Expr) : Option (Option (List Str)) :=
  if !(ts.length == 2 || ts.length == 3) || vs.length != ts.length then some none
  else if vs.any isStar then some none
  else
    let line := (ts.head?.map (·.pos.line)).getD 0
    let names := ts.filterMap fun
      | .Name id pos => if ct.vs.lookup id == some .local && pos.line == line then some id else none
      | _ => none
    if names.length != ts.length || names.eraseDups.length != names.length then some none
    else if vs.all (foldedForSure 8) then some none
    else if vs.all (constantsAlone 8) then none
    else some (some names)
theorem swO_ok {ct : Ct} {ts vs : List Expr} {k k2 : Nat} {q q2 : Pos} {r : Option (List Str)} (ok : CtOk ct X) (h : swO ct ts vs = some r) : swappedStores [.Tuple ts k q] (.Tuple vs k2 q2) X.env = pure r := by
  have bk : (X.env.blockKind != .function) = false := by
    unfold PySem.Env.blockKind
    rw [ok.kd]; rfl
  have kn : ∀ y, X.env.kindOf y = ct.vs.lookup y := fun y => by
    unfold PySem.Env.kindOf
    rw [ok.vs]
  unfold swO at h
  unfold swappedStores
  dsimp only
  rw [bk, Bool.or_false]
  split at h
  · rename_i h1; cases h; rw [if_pos h1]
  · rename_i h1
    rw [if_neg h1]
    split at h
    · rename_i h2; cases h; exact if_pos h2
    · rename_i h2
      refine (if_neg h2).trans ?_
      simp only [kn] at h ⊢
      split at h
      · rename_i h3; cases h; exact if_pos h3
      · rename_i h3
        refine (if_neg h3).trans ?_
        split at h
        · rename_i h4; cases h; exact if_pos h4
        · rename_i h4
          refine (if_neg h4).trans ?_
          split at h
          · cases h
          · rename_i h5; cases h; exact if_neg h5
/-- a value just made is stored: the others stay beside -/
theorem RelP.store {C : Fx} {ρ : Env} {σ : L2.St} {H : Hp} {i : Nat} {t : T} {v : V} {fp ft ex : List Addr} (r : RelP W C ρ σ H fp (ft ++ ex)) (ow : Own W H t v ft) (hi : i < ρ.length) (nf : ∀ p ∈ C.fix, p.1 ≠ i) : ∃ fp', RelP W C (ρ.set i (.own t)) (σ.set i (some v)) H fp' ex := by
  obtain ⟨n1, n2, n3⟩ := List.nodup_append.mp r.nd
  obtain ⟨l1, l2, l3⟩ := List.nodup_append.mp n2
  obtain ⟨s, hs⟩ : ∃ s, ρ[i]? = some s := ⟨ρ[i], List.getElem?_eq_getElem hi⟩
  obtain ⟨o, f1, f2, f3, h1, h2, _, h4⟩ := r.slots.at hs
  subst h2
  have sl := h4 H (.own t) (some v) ft (Ext.refl _) (fun _ _ => rfl) (.own ow)
  obtain ⟨k1, k2, k3⟩ := List.nodup_append.mp n1
  obtain ⟨m1, m2, m3⟩ := List.nodup_append.mp k2
  refine ⟨_, sl, ?_, fun a m => ?_, r.frame, r.dom, fun p hp => ?_, r.tabs⟩
  · refine List.nodup_append.mpr ⟨List.nodup_append.mpr ⟨k1, List.nodup_append.mpr ⟨l1, m2, fun a m b m' z => n3 b (by simp [m']) a (by simp [m]) z.symm⟩, fun a m b m' z => ?_⟩, l2, fun a m b m' z => ?_⟩
    · rcases List.mem_append.mp m' with m' | m'
      · exact n3 a (by simp [m]) b (by simp [m']) z
      · exact k3 a m b (by simp [m']) z
    · rcases List.mem_append.mp m with m | m
      · exact n3 a (by simp [m]) b (by simp [m']) z
      · rcases List.mem_append.mp m with m | m
        · exact l3 a m b m' z
        · exact n3 a (by simp [m]) b (by simp [m']) z
  · refine r.own a ?_
    simp only [List.mem_append] at m ⊢
    rcases m with (m | m | m) | m
    · exact .inl (.inl m)
    · exact .inr (.inl m)
    · exact .inl (.inr (.inr m))
    · exact .inr (.inr m)
  · rw [List.getElem?_set_ne (Ne.symm (nf p hp))]; exact r.fix p hp
theorem io_fix {C : Fx} {i : Nat} (hf : FixIn C io) (h : io.contains i = false) : ∀ p ∈ C.fix, p.1 ≠ i := fun p hp z => by
  have := hf p hp
  rw [z] at this
  rw [List.contains_iff_mem.mpr this] at h; cases h
theorem store_next {i : Nat} {t : T} {ρ ρ' : Env} (h : store io kp i t ρ = .next ρ') : io.contains i = false ∧ i < ρ.length ∧ ρ' = ρ.set i (slKeep (kp.contains i) t) := by
  unfold store at h
  split at h
  · rename_i hc
    simp only [Bool.and_eq_true, decide_eq_true_eq, Bool.not_eq_true'] at hc
    cases h
    exact ⟨hc.1, hc.2, rfl⟩
  · cases h
/-- what is not to be kept is frozen, slot by slot -/
theorem Rel.settle {pins : List (Addr × Obj)} {s : Shared} {C : Fx} {ρ : Env} {σ : L2.St} {H : Hp} {i : Nat} {t : T} (I : Inv X pins σ H s) (r : Rel W C (ρ.set i (.own t)) σ H) (hi : i < ρ.length) (k : Bool) :
    ∃ H', Inv X pins σ H' s ∧ Ext H H' ∧ Rel W C (ρ.set i (slKeep k t)) σ H' := by
  cases k with
  | true => exact ⟨H, I, Ext.refl _, r⟩
  | false =>
    obtain ⟨v, H2, _, I2, e2, r2, _⟩ := r.freezeAt I (i := i) (t := t) (by rw [List.getElem?_set_self hi])
    rw [List.set_set] at r2
    exact ⟨H2, I2, e2, r2⟩
variable {eas : Env → Out (List Ar)}
theorem wS_ofA {C : Fx} {σ : L2.St} {H : Hp} {o : Out (List Ar)} {f : List Ar → Env → SO} {Dn : Ends} (h : wS W C Wx (SO.of o f) Dn H) : wAs W C Wx o σ H (fun vs H1 => ∃ as ρ, Ext H H1 ∧ RelA W C ρ σ H1 as vs ∧ wS W C Wx (f as ρ) Dn H1) := by
  cases o with
  | ok t ρ => exact fun v H1 e r => ⟨t, ρ, e, r, wS.mono e h⟩
  | exc d ρ => exact fun cls dx H' e rx r => h cls dx σ H' e rx r
  | bad => exact h
theorem ss_par2 {i j : Nat} {x y : Str} {a b : Expr} {px py pt pt2 : Pos} {kt k2 : Nat} (g : GX W Wx X) (hi : X.N[i]? = some x) (hj : X.N[j]? = some y) (hij : i ≠ j) (hx : X.env.scope.names.lookup x = some .local) (hy : X.env.scope.names.lookup y = some .local)
    (ha : PA X [a, b] (tAs W Wx eas)) (hw : swappedStores [.Tuple [.Name x px, .Name y py] kt pt] (.Tuple [a, b] k2 pt2) X.env = pure (some [x, y])) :
    PS X (.Assign [.Tuple [.Name x px, .Name y py] kt pt] (.Tuple [a, b] k2 pt2) pos) (tS W Wx io fun ρ => SO.of (eas ρ) fun as ρ => parS io kp [i, j] as ρ) := by
  refine ⟨fun pins s σ H Dn I ⟨C, ρ, hf, rel, w⟩ => ?_⟩
  have run := (ps_par (pos := pos) g.calm g.nd hi hj hij hx hy ha hw).run pins s σ H { Dn with nx := fun σ1 H1 => ∃ (t u : T) (ρ1 : Env), Ext H H1 ∧ i < ρ1.length ∧ j < ρ1.length ∧ Rel W C ((ρ1.set i (.own t)).set j (.own u)) σ1 H1 ∧ ∀ σ' H', Ext H1 H' → Rel W C ((ρ1.set i (slKeep (kp.contains i) t)).set j (slKeep (kp.contains j) u)) σ' H' → Dn.nx σ' H' } I
    ⟨C, ρ, rel, ?_⟩
  · refine thn run fun f s1 h1 => ?_
    cases f with
    | next =>
      obtain ⟨σ1, H1, I1, t, u, ρ1, e1, li, lj, r1, k⟩ := h1
      obtain ⟨H2, I2, e2, r2⟩ := r1.settle I1 (by simpa using lj) (kp.contains j)
      rw [List.set_comm _ _ hij] at r2
      obtain ⟨H3, I3, e3, r3⟩ := r2.settle I2 (by simpa using li) (kp.contains i)
      rw [List.set_comm _ _ (Ne.symm hij)] at r3
      exact ⟨σ1, H3, I3, k σ1 H3 (e2.trans e3) r3⟩
    | brk => exact h1
    | cont => exact h1
    | ret v => exact h1
  · have w' := wS_ofA (σ := σ) w
    cases eo : eas ρ with
    | bad => rw [eo] at w'; exact w'
    | exc d ρ1 => rw [eo] at w'; exact w'
    | ok as ρ1 =>
      rw [eo] at w'
      intro vs H1 e1 ra
      obtain ⟨as', ρ2, e2, ra2, w2⟩ := w' vs H1 e1 ra
      obtain ⟨fp, ex, ar, rp⟩ := ra2
      match as', ar, w2 with
      | [], _, w2 => exact w2.elim
      | [.io _], _, w2 => exact w2.elim
      | [.tm _], _, w2 => simp only [parS] at w2; split at w2 <;> exact w2.elim
      | .io _ :: _ :: _, _, w2 => exact w2.elim
      | .tm _ :: .io _ :: _, _, w2 => simp only [parS] at w2; split at w2 <;> exact w2.elim
      | .tm t :: .tm u :: _ :: _, _, w2 => simp only [parS] at w2; split at w2 <;> first | exact w2.elim | (split at w2 <;> exact w2.elim)
      | [.tm t, .tm u], .tm (v := v) (f := f1) h1 (.tm (v := v2) (f := f2) h2 .nil), w2 =>
        simp only [parS] at w2
        split at w2
        · rename_i ρ3 s1
          split at w2
          · rename_i ρ4 s2
            obtain ⟨c1, l1, rfl⟩ := store_next s1
            obtain ⟨c2, l2, rfl⟩ := store_next s2
            obtain ⟨fp1, r1⟩ := rp.store h1 l1 (io_fix hf c1)
            obtain ⟨fp2, r2⟩ := RelP.store (i := j) r1 h2 (by simpa using l2) (io_fix hf c2)
            refine ⟨v, v2, rfl, t, u, ρ2, e2, l1, by simpa using l2, ⟨fp2, r2⟩, fun σ' H' e' r' => w2 σ' H' e' r'⟩
          · exact w2.elim
        · exact w2.elim
theorem ss_par3 {i j l : Nat} {x y z : Str} {a b c : Expr} {px py pz pt pt2 : Pos} {kt k2 : Nat} (g : GX W Wx X) (hi : X.N[i]? = some x) (hj : X.N[j]? = some y) (hl : X.N[l]? = some z) (hij : i ≠ j) (hil : i ≠ l) (hjl : j ≠ l) (hx : X.env.scope.names.lookup x = some .local) (hy : X.env.scope.names.lookup y = some .local) (hz : X.env.scope.names.lookup z = some .local)
    (ha : PA X [a, b, c] (tAs W Wx eas)) (hw : swappedStores [.Tuple [.Name x px, .Name y py, .Name z pz] kt pt] (.Tuple [a, b, c] k2 pt2) X.env = pure (some [x, y, z])) :
    PS X (.Assign [.Tuple [.Name x px, .Name y py, .Name z pz] kt pt] (.Tuple [a, b, c] k2 pt2) pos) (tS W Wx io fun ρ => SO.of (eas ρ) fun as ρ => parS io kp [i, j, l] as ρ) := by
  refine ⟨fun pins s σ H Dn I ⟨C, ρ, hf, rel, w⟩ => ?_⟩
  have run := (ps_par3 (pos := pos) g.calm g.nd hi hj hl hij hil hjl hx hy hz ha hw).run pins s σ H { Dn with nx := fun σ1 H1 => ∃ (t u o : T) (ρ1 : Env), Ext H H1 ∧ i < ρ1.length ∧ j < ρ1.length ∧ l < ρ1.length ∧ Rel W C (((ρ1.set i (.own t)).set j (.own u)).set l (.own o)) σ1 H1 ∧ ∀ σ' H', Ext H1 H' → Rel W C (((ρ1.set i (slKeep (kp.contains i) t)).set j (slKeep (kp.contains j) u)).set l (slKeep (kp.contains l) o)) σ' H' → Dn.nx σ' H' } I ⟨C, ρ, rel, ?_⟩
  · refine thn run fun f s1 h1 => ?_
    cases f with
    | next =>
      obtain ⟨σ1, H1, I1, t, u, o, ρ1, e1, li, lj, ll, r1, k⟩ := h1
      obtain ⟨H2, I2, e2, r2⟩ := r1.settle I1 (by simpa using ll) (kp.contains l)
      rw [List.set_comm _ _ hjl] at r2
      obtain ⟨H3, I3, e3, r3⟩ := r2.settle I2 (by simpa using lj) (kp.contains j)
      rw [List.set_comm _ _ (Ne.symm hjl), List.set_comm _ _ hij, List.set_comm _ _ hil] at r3
      obtain ⟨H4, I4, e4, r4⟩ := r3.settle I3 (by simpa using li) (kp.contains i)
      rw [List.set_comm _ _ (Ne.symm hil), List.set_comm _ _ (Ne.symm hij)] at r4
      exact ⟨σ1, H4, I4, k σ1 H4 (e2.trans (e3.trans e4)) r4⟩
    | brk => exact h1
    | cont => exact h1
    | ret v => exact h1
  · have w' := wS_ofA (σ := σ) w
    cases eo : eas ρ with
    | bad => rw [eo] at w'; exact w'
    | exc d ρ1 => rw [eo] at w'; exact w'
    | ok as ρ1 =>
      rw [eo] at w'
      intro vs H1 e1 ra
      obtain ⟨as', ρ2, e2, ra2, w2⟩ := w' vs H1 e1 ra
      obtain ⟨fp, ex, ar, rp⟩ := ra2
      match as', ar, w2 with
      | [], _, w2 => exact w2.elim
      | .io _ :: _, _, w2 => exact w2.elim
      | [.tm _], _, w2 => simp only [parS] at w2; split at w2 <;> first | exact w2.elim | (split at w2 <;> first | exact w2.elim | (split at w2 <;> exact w2.elim))
      | .tm _ :: .io _ :: _, _, w2 => simp only [parS] at w2; split at w2 <;> first | exact w2.elim | (split at w2 <;> first | exact w2.elim | (split at w2 <;> exact w2.elim))
      | [.tm _, .tm _], _, w2 => simp only [parS] at w2; split at w2 <;> first | exact w2.elim | (split at w2 <;> first | exact w2.elim | (split at w2 <;> exact w2.elim))
      | .tm _ :: .tm _ :: .io _ :: _, _, w2 => simp only [parS] at w2; split at w2 <;> first | exact w2.elim | (split at w2 <;> first | exact w2.elim | (split at w2 <;> exact w2.elim))
      | .tm _ :: .tm _ :: .tm _ :: _ :: _, _, w2 => simp only [parS] at w2; split at w2 <;> first | exact w2.elim | (split at w2 <;> first | exact w2.elim | (split at w2 <;> exact w2.elim))
      | [.tm t, .tm u, .tm o], .tm (v := v) (f := f1) h1 (.tm (v := v2) (f := f2) h2 (.tm (v := v3) (f := f3) h3 .nil)), w2 =>
        simp only [parS] at w2
        split at w2
        · rename_i ρ3 s1
          split at w2
          · rename_i ρ4 s2
            split at w2
            · rename_i ρ5 s3
              obtain ⟨c1, l1, rfl⟩ := store_next s1
              obtain ⟨c2, l2, rfl⟩ := store_next s2
              obtain ⟨c3, l3, rfl⟩ := store_next s3
              obtain ⟨fp1, r1⟩ := rp.store h1 l1 (io_fix hf c1)
              obtain ⟨fp2, r2⟩ := RelP.store (i := j) r1 h2 (by simpa using l2) (io_fix hf c2)
              obtain ⟨fp3, r3⟩ := RelP.store (i := l) r2 h3 (by simpa using l3) (io_fix hf c3)
              exact ⟨v, v2, v3, rfl, t, u, o, ρ2, e2, l1, by simpa using l2, by simpa using l3, ⟨fp3, r3⟩, fun σ' H' e' r' => w2 σ' H' e' r'⟩
            · exact w2.elim
          · exact w2.elim
        · exact w2.elim
/-- xs.pop(e) -/
theorem sb_pop {x : Str} {i : Nat} {apos cpos : Pos} (hN : X.N[i]? = some x) (hv : Vis X.env.scope x) (hd : (x == ("__debug__" : Str)) = false) (hcd : (x == ("__classdict__" : Str)) = false) (he : PE X e (tD W Wx ed)) (hst : isStar e = false) (hline : (apos.endLine == cpos.line) = true) :
    PE X (.Call (.Attribute (.Name x p) "pop" apos) [e] [] cpos) (tE W Wx fun ρ => if !isLstS ρ[i]? then .bad else bindI (ed ρ) fun k ρ => popT ρ i k) := by
  have h1 := plain_star (es := []) (env := X.env) (isStar_ne hst)
  refine (pe_bm PySem.F.plainAttrs_list PySem.F.slot_list_pop PySem.F.type_list_pop mt_popAt (pe_var (pos := p) hN hv hd hcd) (pa_cons he pa_nil h1) rfl (by rw [h1]; rfl) hline h1 rfl).mono fun σ H Q ⟨C, ρ, rel, w⟩ => ?_
  cases hl : isLstS ρ[i]? with
  | false => simp only [hl] at w; exact w.elim
  | true =>
    simp only [hl] at w
    obtain ⟨ts0, e0⟩ := isLstS_ok hl
    obtain ⟨a0, vs0, s0, h0, _, _⟩ := rel.updLst e0
    refine ⟨.ref a0, s0, .inl ⟨rfl, vs0, .inl (.inl h0)⟩, C, ρ, rel, ?_⟩
    refine wD_bind wE_x wE_b wE_m w fun y ρ1 v H1 e1 r1 p1 q1 => ?_
    cases y with
    | int k =>
      cases p1
      simp only [popT] at q1
      split at q1
      · rename_i ts es
        split at q1
        · rename_i j hj
          split at q1
          · rename_i d hd'
            split at q1
            · rename_i hr
              simp only [okRange, Bool.and_eq_true, decide_eq_true_eq] at hr
              obtain ⟨a, vs, s1, h1', ⟨fp, os⟩, up⟩ := r1.updLst es
              rw [s0] at s1; cases s1
              obtain ⟨v, hv', rv⟩ := reps_own os hd'
              obtain ⟨e2, r2⟩ := up (ts.eraseIdx j) (vs.eraseIdx j) fun fp os => os.erase
              refine ⟨a0, vs, k, j, v, rfl, rfl, h1', by omega, by omega, ?_, hv', q1 _ _ e2 (r2.relT (rv.ext e2))⟩
              rw [← os.length]
              exact (ixN_seq hj).1
            · exact q1.elim
          · exact q1.elim
        · exact q1.elim
      · exact q1.elim
    | _ => exact q1.elim
end
end Eg
set_option Elab.async false
set_option linter.all false
set_option maxRecDepth 100000
set_option maxHeartbeats 4000000
/-! the engine: {**d, k: v} -/
namespace Eg
open PySem PySem.Spec PyProof.Rows L2
section
variable {prog : Program} {w : World} {K : Type} [DecidableEq K] {knd : KeyKind prog w K} {A : Around} {E : Value → Shared → Prop} {s : Shared}
theorem dput_pairs {d : Addr} {kvs : List (K × Value)} {k : K} {key v : Value} {Q : Unit → Shared → Prop} (hkey : knd.is k key = true) (hm : s.heap.DictOf knd d kvs)
    (hQ : ∀ h', h'.DictOf knd d (stored kvs k v) → Heap.SameBut d s.heap h' → Q () { s with heap := h' })
    (hsz : kvs.length ≤ sizeLine) :
    wpAny (model prog w) A (dictPut d (knd.hash k) key v) Q E s := by
  obtain ⟨o, es, ep, ho, hc, hd, hk, hp, hn⟩ := hm
  have hes : es.size ≤ sizeLine := by have e1 := hp.length; have e2 : es.toList.length = es.size := by simp
                                      omega
  unfold dictPut
  refine wpAny_bind (wpAny_dictFind_of hkey ho hd hk ?_)
  have hidx : (es.findIdx? fun e => knd.is k e.key) = kvs.findIdx? fun kv => decide (kv.1 = k) := by
    rw [← hp.findIdx k]; obtain ⟨l⟩ := es; simp
  cases hi : es.findIdx? fun e => knd.is k e.key with
  | some i =>
    refine wpAny_updateDict ho hd (hQ _ ⟨_, _, ep, Heap.get?_update_self _ ho (Obj.isFreed_of_dict (Obj.data_mapDict hd _)),
      hc.mapDict _, Obj.data_mapDict hd _, hk.modify _ _, ?_, ?_⟩ (Heap.SameBut.update ..))
    · rw [stored, if_pos (any_of_findIdx_some (hidx ▸ hi))]
      have hl : (es.toList.findIdx? fun e => knd.is k e.key) = some i := by rw [← hi]; obtain ⟨l⟩ := es; simp
      have := hp.modify hn hl v
      obtain ⟨l⟩ := es
      simpa using this
    · rw [stored, if_pos (any_of_findIdx_some (hidx ▸ hi)), keys_map_store]; exact hn
  | none =>
    have hnot : k ∉ kvs.map (·.1) := not_mem_of_findIdx_none (hidx ▸ hi)
    have hany : ¬ (kvs.any fun kv => decide (kv.1 = k)) = true := by
      rw [List.any_eq_true]; rintro ⟨kv, hkv, he⟩
      exact hnot (List.mem_map.mpr ⟨kv, hkv, of_decide_eq_true he⟩)
    refine wpAny_updateDictKeys (hz := hes) ho hd (hQ _ ⟨_, _, ep + 1, Heap.get?_update_self _ ho (Obj.isFreed_of_dict (Obj.data_mapDictKeys hd _)),
      hc.mapDictKeys _, Obj.data_mapDictKeys hd _, hk.push hkey _, ?_, ?_⟩ (Heap.SameBut.update ..))
    · rw [stored, if_neg hany]
      have := hp.append hkey (knd.hash k) v
      obtain ⟨l⟩ := es
      simpa using this
    · rw [stored, if_neg hany, List.map_append, List.nodup_append]
      refine ⟨hn, by simp, ?_⟩
      intro a ha b hb
      simp only [List.map_cons, List.map_nil, List.mem_singleton] at hb
      subst hb
      exact fun e => hnot (e ▸ ha)
theorem merge_of {d o : Addr} {kvs more : List (K × Value)} {Q : Unit → Shared → Prop} (hdo : d ≠ o) (hoS : (o == sysModules) = false)
    (hd : s.heap.DictOf knd d kvs) (ho : s.heap.DictOf knd o more)
    (hQ : ∀ h', h'.DictOf knd d (merged kvs more) → h'.DictOf knd o more → Heap.SameBut d s.heap h' → Q () { s with heap := h' })
    (hsz : kvs.length + more.length ≤ sizeLine) :
    wpAny (model prog w) A (mergeMapping d (.ref o) false) Q E s := by
  obtain ⟨od, esd, epd, hod, hcd, hdd, hkd, hpd, hnd⟩ := id hd
  obtain ⟨oo, eso, epo, hoo, hco, hdo', hko, hpo, hno⟩ := id ho
  unfold mergeMapping
  have hlen : more.length = eso.size := by rw [← hpo.length]; simp
  refine wpAny_bind (wpAny_isInstance ho.typeIs isSubtype_dict_dict ?_)
  simp only [if_true]
  refine wpAny_bind (wpAny_specialOf ho.typeIs F.slot_dict_iter.lookup (wpAny_bind (wpAny_pure ?_)))
  simp only [beq_self_eq_true, Bool.false_eq_true, if_false]
  rw [if_neg (by rw [hoS]; exact Bool.false_ne_true)]
  have hloop0 : (forIn eso PUnit.unit fun e (_ : PUnit) => (match e.key with
      | Value.ref a => (do
        let r ← specialOf e.key "__eq__"
        if (r != some (Value.builtin "object.__eq__")) = true then
          if (Array.filter (fun x => x.hash == e.hash) eso).size > 1 then (do
            unsupported "dict.merge-into-an-empty-dict:keys-of-equal-hash"
            pure (ForInStep.yield PUnit.unit))
          else pure (ForInStep.yield PUnit.unit)
        else pure (ForInStep.yield PUnit.unit))
      | _ => pure (ForInStep.yield PUnit.unit) : Sem (ForInStep PUnit))) = pure PUnit.unit := by
    rw [← Array.forIn_toList]
    refine forIn_yield_id _ fun e he c => ?_
    obtain ⟨k, hkey, _⟩ := hko e (Array.mem_toList_iff.mp he)
    have hv := knd.byValue k _ hkey
    cases hk0 : e.key with
    | ref a => rw [hk0] at hv; cases hv
    | _ => rfl
  have loop : wpAny (model prog w) A (do
      let l ← dictEntries o
      let epoch ← dictEpoch o
      forIn (List.range l.size) PUnit.unit fun i (_ : PUnit) => (do
          let l' ← dictEntries o
          match l'[i]? with
            | some e => do
              holding [e.key, e.val] (dictPut d e.hash e.key e.val)
              let ep' ← dictEpoch o
              if (ep' != epoch) = true then do
                  (unsupported "dict.changed-during-merge" : Sem PUnit)
                  pure (ForInStep.yield PUnit.unit)
                else pure (ForInStep.yield PUnit.unit)
            | _ => do
              (unsupported "dict.changed-during-merge" : Sem PUnit)
              pure (ForInStep.yield PUnit.unit) : Sem (ForInStep PUnit))
      pure ()) Q E s := by
    refine wpAny_bind (wpAny_dictEntries hoo hdo' ?_)
    refine wpAny_bind (wpAny_dictEpoch hoo hdo' ?_)
    refine wpAny_bind ?_
    rw [List.range_eq_range']
    refine wpAny_forIn_list _
      (fun rest _ s' => ∃ h' i, s' = { s with heap := h' } ∧ rest = List.range' i (eso.size - i) ∧ i ≤ eso.size ∧ h'.DictOf knd d (merged kvs (more.take i)) ∧ h'.get? o = some oo ∧ Heap.SameBut d s.heap h')
      _ ?_ ?_ _ _ ⟨s.heap, 0, rfl, by simp, Nat.zero_le _, by simpa [merged] using hd, hoo, Heap.SameBut.refl _ _⟩
    · rintro x rest b s' ⟨h', i, rfl, hr, hi, hd', hoo', hs'⟩
      have hlt : i < eso.size := by
        rcases Nat.lt_or_ge i eso.size with h | h
        · exact h
        · rw [Nat.sub_eq_zero_of_le h] at hr; simp at hr
      obtain ⟨rfl, hrest⟩ : x = i ∧ rest = List.range' (i + 1) (eso.size - (i + 1)) := by
        have e : eso.size - i = (eso.size - (i + 1)) + 1 := by omega
        rw [e, List.range'_succ] at hr
        injection hr with h1 h2
        exact ⟨h1, h2⟩
      refine wpAny_bind (wpAny_dictEntries hoo' hdo' ?_)
      rw [Array.getElem?_eq_getElem hlt]
      obtain ⟨kv, hkv⟩ : ∃ kv, more[x]? = some kv := ⟨more[x]'(by rw [hlen]; exact hlt), List.getElem?_eq_getElem _⟩
      obtain ⟨k, v⟩ := kv
      obtain ⟨hkey, hval⟩ := hpo.get? (e := eso[x]) (by simp [hlt]) hkv
      obtain ⟨k', hkey', hhash⟩ := hko eso[x] (Array.getElem_mem hlt)
      obtain rfl : k' = k := knd.inj _ _ _ hkey' hkey
      show wpAny _ _ (holding [eso[x].key, eso[x].val] (dictPut d eso[x].hash eso[x].key eso[x].val) >>= _) _ _ _
      rw [hhash, hval]
      have hmx : (merged kvs (more.take x)).length ≤ sizeLine := by
        have e1 := merged_length_le kvs (more.take x)
        have e2 : (more.take x).length ≤ more.length := by rw [List.length_take]; omega
        omega
      refine wpAny_bind (wpAny_holding (dput_pairs (hsz := hmx) hkey hd' fun h'' hd'' hs'' => ?_))
      have hoo'' : h''.get? o = some oo := (hs''.2 o (Ne.symm hdo)).trans hoo'
      refine wpAny_bind (wpAny_dictEpoch hoo'' hdo' ?_)
      rw [if_neg (by simp)]
      exact wpAny_pure ⟨h'', x + 1, rfl, hrest, hlt, by rw [merged_take_succ kvs more x (k', v) hkv]; exact hd'', hoo'', hs'.trans hs''⟩
    · rintro b s' ⟨h', i, rfl, hr, hi, hd', hoo', hs'⟩
      have hin : i = eso.size := by
        rcases Nat.lt_or_ge i eso.size with h | h
        · have e : eso.size - i = (eso.size - (i + 1)) + 1 := by omega
          rw [e, List.range'_succ] at hr; exact nomatch hr
        · exact Nat.le_antisymm hi h
      refine wpAny_pure (hQ h' ?_ ⟨oo, eso, epo, hoo', hco, hdo', hko, hpo, hno⟩ hs')
      rw [hin, ← hlen, List.take_length] at hd'; exact hd'
  refine wpAny_bind (wpAny_dictEntries hod hdd ?_)
  split
  · refine wpAny_bind (wpAny_dictEntries hoo hdo' ?_)
    exact wpAny_bind (wpAny_of_eq hloop0 loop)
  · exact loop
end
theorem disp_star (m k v : Sem Value) : dictDisplay [(none, m), (some k, v)] = (do
    let d ← alloc { cls := .type "dict", data := .dict #[] }
    let x ← holding [.ref d] m
    (((holding [.ref d, x] (mergeMapping d x false)).onRaise fun y => do let _ ← holding [.ref d, x, y] (runValue (.builtin "proto.let_go" {}))).tryCatch fun e => do
        if ← isInstance e (.type "AttributeError") then
          rule "dict.display.not-a-mapping"; raiseError "TypeError" s!"'{← typeNameOf x}' object is not a mapping"
        throw e).onRaise fun x => do let _ ← holding [.ref d, x] (runValue (.builtin "proto.let_go" {}))
    let sub ← holding [.ref d] (subDict [(k, v)])
    (holding [.ref d, .ref sub] (mergeMapping d (.ref sub) false)).onRaise fun x => do let _ ← holding [.ref d, x] (runValue (.builtin "proto.let_go" {}))
    pure (.ref d)) := by
  unfold dictDisplay
  simp [List.forIn_cons, List.forIn_nil]
section
variable {X : Cx} {pos : Pos}
/-- {**d, k: v} -/
def tStar (tb tk tv : TE) : TE := fun σ H Q => ∀ p, H p = none → tb σ (upd H p (.dK [])) fun x H1 => H1 p = some (.dK []) ∧ ∃ (o : Addr) (more : List (Key × V)), x = .ref o ∧ Rd H1 o (.dK more) ∧ p ≠ o ∧ more.length + 1 ≤ sizeLine ∧
  ∀ q, (upd H1 p (.dK (mergeK [] more))) q = none → tk σ (upd (upd H1 p (.dK (mergeK [] more))) q (.dK [])) fun y H2 => tv σ H2 fun z H3 => H3 q = some (.dK []) ∧ H3 p = some (.dK (mergeK [] more)) ∧ ∃ key : Key, y = kV key ∧
    Q (.ref p) (upd (upd H3 q (.dK (mergeK [] [(key, z)]))) p (.dK (mergeK (mergeK [] more) [(key, z)])))
theorem pe_star {be ke ve : Expr} {tb tk tv : TE} (hb : PE X be tb) (hk : PE X ke tk) (hv : PE X ve tv) : PE X (.Dict [none, some ke] [be, ve] pos) (tStar tb tk tv) := by
  refine ⟨fun pins s σ H Q I q => ?_⟩
  have hn := I.hok.fresh (Nat.le_refl s.heap.objs.size)
  have I1 := I.laid (a := s.heap.objs.size) (o := .dK []) (h' := s.heap.push { cls := .type "dict", data := .dict #[] }) (t' := s.toks) (fun _ _ q => Heap.get?_push_of_some _ q) (Nat.le_refl _) (dk_empty s.heap I.big)
  rw [arm_eval_Dict]
  refine wpAny_bind (wpAny_standAt ?_)
  show wpAny _ _ (dictDisplay [(none, do let x ← eval be X.env; standAt pos; pure x), (some (eval ke X.env), do let x ← eval ve X.env; standAt pos; pure x)]) _ _ _
  rw [disp_star]
  refine wpAny_bind (wpAny_alloc (wpAny_bind (wpAny_holding (wpAny_bind (thn (hb.run pins _ σ _ _ I1 (q _ hn)) fun u s1 ⟨x, H1, I2, rx, e1, o, more, ex, ro, npo, hl, q1⟩ => wpAny_bind (wpAny_standAt (wpAny_pure ?_)))))))
  subst ex
  cases (show u = Value.ref o from rx)
  obtain ⟨z1, hd1, vs0, r0, dd1⟩ := dk_of I2.hok e1
  cases r0
  obtain ⟨z2, hd2, vs, r2, dd2⟩ := dk_rd I2.hok ro
  have hvl : vs.length = more.length := by have := r2.length; omega
  refine wpAny_bind (wpAny_onRaise (wpAny_tryCatch (wpAny_onRaise (wpAny_holding (merge_of npo hd2 dd1 dd2 (fun h1 d1 _ hs1 => ?_) (by rw [List.length_nil]; omega))))))
  have hz : (mergeK [] more).length ≤ sizeLine := by
    have h1 := length_mergeK more []
    rw [List.length_nil] at h1; omega
  have he : ∃ q, h1.get? s.heap.objs.size = some q := let ⟨q, _, _, hq, _⟩ := d1; ⟨q, hq⟩
  have I3 := d_write (t' := s1.toks) I2 (by rw [e1]; exact True.intro) hs1 he (dk_new hz hd1 (r2.merge .nil) d1)
  have hn2 := I3.hok.fresh (Nat.le_refl h1.objs.size)
  have nsp : h1.objs.size ≠ s.heap.objs.size := fun z => by rw [z, upd_same] at hn2; cases hn2
  have I4 := I3.laid (a := h1.objs.size) (o := .dK []) (h' := h1.push { cls := .type "dict", data := .dict #[] }) (t' := s1.toks) (fun _ _ q => Heap.get?_push_of_some _ q) (Nat.le_refl _) (dk_empty h1 I3.big)
  refine wpAny_bind (wpAny_holding (wpAny_subDict (knd := mixKind X.prog X.w) (Nat.le_add_left 1 14) ?_))
  refine evalPairs_cons (thn (hk.run pins _ σ _ _ I4 (q1 _ hn2)) fun u2 s2 ⟨y, H2, I5, ry, q2⟩ => ?_)
  refine wpAny_bind (thn (hv.run pins s2 σ H2 _ I5 q2) fun u3 s3 ⟨z, H3, I6, rz, e3, e4, key, ey, q3⟩ => wpAny_bind (wpAny_standAt (wpAny_pure (evalPairs_nil ?_))))
  subst ey
  obtain ⟨_, hd3, vs3, r3, dd3⟩ := dk_of I6.hok e3
  cases r3
  refine ⟨[(key, u3)], ⟨kV_is ry, rfl, True.intro⟩, dd3, fun h4 d4 hs4 => ?_⟩
  have kv1 : KV [(key, z)] [(key, u3)] := .cons ⟨rfl, rz⟩ .nil
  have he4 : ∃ q, h4.get? h1.objs.size = some q := let ⟨q, _, _, hq, _⟩ := d4; ⟨q, hq⟩
  have I7 := d_write (t' := s3.toks + 1) I6 (by rw [e3]; exact True.intro) hs4 he4 (dk_new (kvs := mergeK [] [(key, z)]) (by rw [sizeLine_eq]; show 1 ≤ _; omega) hd3 (kv1.merge .nil) d4)
  have e5 : (upd H3 h1.objs.size (.dK (mergeK [] [(key, z)]))) s.heap.objs.size = some (.dK (mergeK [] more)) := by rw [upd_ne (Ne.symm nsp)]; exact e4
  obtain ⟨z5, hd5, vs5, r5, dd5⟩ := dk_of I7.hok e5
  obtain ⟨z6, hd6, vs6, r6, dd6⟩ := dk_of I7.hok (upd_same (H := H3) (a := h1.objs.size) (o := .dK (mergeK [] [(key, z)])))
  have l5 : vs5.length = (mergeK [] more).length := by have := r5.length; omega
  have l6 : vs6.length = 1 := by have := r6.length; have h2 : (mergeK [] [(key, z)]).length = 1 := rfl; omega
  have l7 : (mergeK [] more).length ≤ more.length := by have := length_mergeK more []; rw [List.length_nil] at this; omega
  refine wpAny_bind (wpAny_onRaise (wpAny_holding (merge_of (Ne.symm nsp) hd6 dd5 dd6 (fun h8 d8 _ hs8 => wpAny_pure ?_) (by omega))))
  have he8 : ∃ q, h8.get? s.heap.objs.size = some q := let ⟨q, _, _, hq, _⟩ := d8; ⟨q, hq⟩
  have lz : (mergeK (mergeK [] more) (mergeK [] [(key, z)])).length ≤ sizeLine := by
    have h1 := length_mergeK (mergeK [] [(key, z)]) (mergeK [] more)
    have h2 : (mergeK [] [(key, z)]).length = 1 := rfl
    omega
  exact ⟨.ref s.heap.objs.size, _, d_write (t' := s3.toks + 1) I7 (by rw [e5]; exact True.intro) hs8 he8 (dk_new lz hd5 (r6.merge r5) d8), rfl, q3⟩
end
theorem map_no {k : Key} {u : V} : ∀ {ks : List Key} {vs : List V}, k ∉ ks → (ks.zip vs).map (fun kv => if kv.1 = k then (kv.1, u) else kv) = ks.zip vs
  | [], _, _ => rfl
  | _ :: _, [], _ => rfl
  | j :: ks, v :: vs, h => by
    rw [List.zip_cons_cons, List.map_cons, map_no (ks := ks) fun z => h (List.mem_cons_of_mem _ z), if_neg (show ¬ j = k from fun z => h (by rw [z]; exact List.mem_cons_self))]
theorem putK_eq {j k : Key} {v u : V} {ks : List Key} {vs : List V} (e : j = k) (h : j ∉ ks) : putK ((j, v) :: ks.zip vs) k u = (j, u) :: ks.zip vs := by
  subst e
  unfold putK
  rw [if_pos (by simp), List.map_cons, map_no h, if_pos rfl]
theorem putK_neq {j k : Key} {v u : V} {r : List (Key × V)} (e : ¬ j = k) : putK ((j, v) :: r) k u = (j, v) :: putK r k u := by
  unfold putK
  rw [List.any_cons, decide_eq_false (show ¬ (j, v).1 = k from e), Bool.false_or, List.map_cons]
  split
  · rfl
  · rfl
theorem putT_own {W : Wd} {H : Hp} {k : Key} {z : D} {u : V} (rz : Rep W H z u) : ∀ {ks : List Key} {ds : List D} {vs : List V}, Reps W H ds vs → ks.length = vs.length → ks.Nodup →
    ∃ vs', putK (ks.zip vs) k u = (putT ks (ds.map .fr) k (.fr z)).1.zip vs' ∧ Owns W H (putT ks (ds.map .fr) k (.fr z)).2 vs' [] ∧ (putT ks (ds.map .fr) k (.fr z)).1.length = vs'.length
  | [], _, _, .nil, _, _ => ⟨[u], rfl, by have := Owns.cons (Own.fr rz) (.nil (W := W) (H := H)); simpa [putT] using this, rfl⟩
  | [], _, _, .cons _ _, h, _ => nomatch h
  | _ :: _, _, _, .nil, h, _ => nomatch h
  | j :: ks, _, _, .cons (d := d) (v := v) (ds := ds) (vs := vs) h1 h2, hl, nd => by
    obtain ⟨n1, n2⟩ := List.nodup_cons.mp nd
    simp only [List.zip_cons_cons, List.map_cons, putT]
    by_cases e : j = k
    · rw [if_pos e, putK_eq e n1]
      refine ⟨u :: vs, by rw [List.zip_cons_cons], ?_, ?_⟩
      · have := Owns.cons (Own.fr rz) h2.owns
        simpa using this
      · simpa using hl
    · rw [if_neg e, putK_neq e]
      obtain ⟨vs', a, b, c⟩ := putT_own rz (ks := ks) h2 (by simpa using hl) n2
      refine ⟨v :: vs', by rw [a, List.zip_cons_cons], ?_, by simp only [List.length_cons, c]⟩
      have := Owns.cons (Own.fr h1) b
      simpa using this
theorem keyOf_R {W : Wd} {H : Hp} {y : D} {u : V} {k : Key} (e : keyOfD y = some k) (h : Rep W H y u) : u = kV k := by
  cases h <;> simp only [keyOfD, Option.some.injEq, reduceCtorEq] at e <;> subst e <;> rfl
section
variable {W : Wd} {Wx : WX} {X : Cx} {pos : Pos} {be ke ve : Expr} {eb ek ev : Env → Out D}
theorem sb_dicS (hb : PE X be (tD W Wx eb)) (hk : PE X ke (tD W Wx ek)) (hv : PE X ve (tD W Wx ev)) :
    PE X (.Dict [none, some ke] [be, ve] pos) (tE W Wx fun ρ => (eb ρ).bind fun x ρ => if dicOk x then (ek ρ).bind fun y ρ => (ev ρ).bind fun z ρ => Out.of ρ (putD x y z) else .bad) := by
  refine (pe_star hb hk hv).mono fun σ H Q ⟨C, ρ, rel, q⟩ p hp => ?_
  obtain ⟨fp, ro⟩ := rel.opened (o := .dK []) hp (fun _ z => nomatch z)
  have lv : ∀ a ∈ [p], Live (upd H p (.dK [])) a := fun a m => by
    have : a = p := by simpa using m
    subst this; exact .inr (.inl ⟨_, upd_same⟩)
  refine ⟨_, ρ, ro.base, ?_⟩
  have e0 : Ext H (upd H p (.dK [])) := Ext.new hp
  cases eo : eb ρ with
  | bad => simp only [eo, Out.bind] at q; exact q.elim
  | exc d ρ1 => simp only [eo, Out.bind] at q; exact xWay.rebase ro lv e0 q
  | ok x ρ1 =>
    simp only [eo, Out.bind] at q
    intro v H1 e1 r1 px
    obtain ⟨ke1, fp1, r2⟩ := ro.back lv r1
    have kp : H1 p = some (.dK []) := (ke1 p (by simp)).trans upd_same
    by_cases hd : dicOk x = true
    case neg => rw [if_neg hd] at q; exact q.elim
    rw [if_pos hd] at q
    cases px with
    | @dic ks ds a vs fz rs hl =>
      simp only [dicOk, Bool.and_eq_true, decide_eq_true_eq] at hd
      obtain ⟨⟨c1, c2⟩, c3⟩ := hd
      have c1' : ks.length = vs.length := hl
      have em : mergeK [] (ks.zip vs) = ks.zip vs := by
        have := merge_zip (js := []) (us := []) (ks := ks) (vs := vs) rfl (by simpa using c2)
        simpa using this
      have npa : p ≠ a := fun z => by
        obtain ⟨o, fz⟩ := fz
        rw [z, fz] at kp
        cases kp
      have lp1 : Live H1 p := .inr (.inl ⟨_, kp⟩)
      refine ⟨kp, a, ks.zip vs, rfl, ?_, npa, ?_, fun p2 hp2 => ?_⟩
      · exact .inr fz
      · rw [List.length_zip, sizeLine_eq]; omega
      · rw [em] at hp2 ⊢
        have np : p2 ≠ p := fun z => by rw [z, upd_same] at hp2; cases hp2
        have r3 := r2.write (o := .dK (ks.zip vs)) (by simp) lp1 (fun _ z => nomatch z)
        have e2 : Ext H1 (upd H1 p (.dK (ks.zip vs))) := Ext.upd lp1
        have lv3 : ∀ a ∈ [p], Live (upd H1 p (.dK (ks.zip vs))) a := fun a m => by
          have : a = p := by simpa using m
          subst this; exact .inr (.inl ⟨_, upd_same⟩)
        obtain ⟨fp3, r4⟩ := r3.base.opened (o := .dK []) hp2 (fun _ z => nomatch z)
        have lv4 : ∀ a ∈ [p2], Live (upd (upd H1 p (.dK (ks.zip vs))) p2 (.dK [])) a := fun a m => by
          have : a = p2 := by simpa using m
          subst this; exact .inr (.inl ⟨_, upd_same⟩)
        have eX : ∀ {d : D} {ρ2 : Env}, xWay W C Wx d ρ2 σ H → xWay W ⟨upd (upd H1 p (.dK (ks.zip vs))) p2 (.dK []), fp3, C.fix⟩ Wx d ρ2 σ (upd (upd H1 p (.dK (ks.zip vs))) p2 (.dK [])) := fun q =>
          xWay.rebase (C := ⟨upd H1 p (.dK (ks.zip vs)), fp1, C.fix⟩) r4 lv4 (Ext.new hp2) (xWay.rebase r3 lv3 (e0.trans (e1.trans e2)) q)
        refine ⟨_, ρ1, r4.base, ?_⟩
        cases eo2 : ek ρ1 with
        | bad => simp only [eo2, Out.bind] at q; exact q.elim
        | exc d ρ2 => simp only [eo2, Out.bind] at q; exact eX q
        | ok y ρ2 =>
          simp only [eo2, Out.bind] at q
          intro vy H2 e3 r5 py
          refine ⟨_, ρ2, r5, ?_⟩
          cases eo3 : ev ρ2 with
          | bad => simp only [eo3] at q; exact q.elim
          | exc d ρ3 => simp only [eo3] at q; exact fun cls dx H' e => eX q cls dx H' (e3.trans e)
          | ok z ρ3 =>
            simp only [eo3] at q
            intro vz H3 e4 r6 pz
            obtain ⟨k2, fp4, r7⟩ := r4.back lv4 r6
            have kp2 : H3 p2 = some (.dK []) := (k2 p2 (by simp)).trans upd_same
            obtain ⟨k3, _, _⟩ := r3.back lv3 r7.plain
            have kp3 : H3 p = some (.dK (ks.zip vs)) := (k3 p (by simp)).trans upd_same
            cases ek2 : keyOfD y with
            | none => simp only [putD, ek2, Out.of] at q; exact q.elim
            | some key =>
              simp only [putD, ek2, Out.of] at q
              refine ⟨kp2, kp3, key, keyOf_R ek2 py, ?_⟩
              have lp2 : Live H3 p2 := .inr (.inl ⟨_, kp2⟩)
              have r8 := r7.write (o := .dK (mergeK [] [(key, vz)])) (by simp) lp2 (fun _ z => nomatch z)
              have e5 : Ext H3 (upd H3 p2 (.dK (mergeK [] [(key, vz)]))) := Ext.upd lp2
              obtain ⟨k4, fp6, r9⟩ := r3.back lv3 r8.plain
              have kp4 : (upd H3 p2 (.dK (mergeK [] [(key, vz)]))) p = some (.dK (ks.zip vs)) := (k4 p (by simp)).trans upd_same
              have lp4 : Live (upd H3 p2 (.dK (mergeK [] [(key, vz)]))) p := .inr (.inl ⟨_, kp4⟩)
              have e6 := Ext.upd (o := .dK (mergeK (ks.zip vs) [(key, vz)])) lp4
              have r10 := r9.write (o := .dK (mergeK (ks.zip vs) [(key, vz)])) (by simp) lp4 (fun _ z => nomatch z)
              have eA : Ext H1 H3 := e2.trans ((Ext.new hp2).trans (e3.trans e4))
              obtain ⟨vs', a1, a2, a3⟩ := putT_own pz (k := key) (rs.ext eA) c1' c2
              have ow := Own.dic (W := W) (H := upd (upd H3 p2 (.dK (mergeK [] [(key, vz)]))) p (.dK (mergeK (ks.zip vs) [(key, vz)]))) (a := p) (ks := _) (vs := vs') (by rw [← a1]; exact upd_same) (a2.ext (e5.trans e6) fun a m => by cases m) a3
              exact q _ _ (e0.trans (e1.trans (eA.trans (e5.trans e6)))) (r10.close ow)
    | _ => simp [dicOk] at hd
end
end Eg
set_option Elab.async false
set_option linter.all false
set_option maxRecDepth 100000
set_option maxHeartbeats 4000000
/-! the engine: expressions of the text, compiled -/
namespace Eg
open PySem PySem.Spec PyProof.Rows L2

/-- what a global's name stands for -/
inductive Gk where
  | fn (f : Nat)
  | exc (c : Nat)
  | cls (c : Nat)
  | cst (d : D)
  | told (c : Nat)
/-- the module's names; the attributes' names -/
structure Gt where
  gs : List (Str × Gk)
  nm : List Str
  ow : List (List Bool) := []
  mks : List Bool := []
  lam : Bool := false
def bls : List Str := ["len", "int", "abs", "list", "tuple", "repr", "all", "any", "sum", "max", "min", "isinstance", "range", "enumerate", "zip", "bool", "str", "dict", "ValueError", "super", "sorted", "set"]
def blOk (gt : Gt) (ct : Ct) (x : Str) : Bool := (match ct.vs.lookup x with
  | some .globalImplicit => true
  | _ => false) && bls.contains x && (gt.gs.lookup x).isNone
def glOf (gt : Gt) (ct : Ct) (x : Str) : Option Gk := match ct.vs.lookup x with
  | some .globalImplicit => gt.gs.lookup x
  | _ => none
def plainNm (x : Str) : Bool := !(x == ("__debug__" : Str)) && !(x == ("__classdict__" : Str))
def varE (ct : Ct) (x : Str) : Option Nat := if isVis ct.vs x && plainNm x then ixOf x ct.N else none
def biOf0 (x : Str) (n : Nat) : Option Bi :=
  if x = "len" ∧ n = 1 then some .len else if x = "int" ∧ n = 1 then some .int else if x = "abs" ∧ n = 1 then some .abs else if x = "list" ∧ n = 1 then some .list
  else if x = "tuple" ∧ n = 1 then some .tuple else if x = "repr" ∧ n = 1 then some .repr else if x = "all" ∧ n = 1 then some .all else if x = "any" ∧ n = 1 then some .any else if x = "sum" ∧ n = 1 then some .sum
  else if x = "max" ∧ n = 2 then some .max2 else if x = "min" ∧ n = 2 then some .min2 else none
def biOf (x : Str) (n : Nat) : Option Bi := if x = "str" ∧ n = 1 then some .str else biOf0 x n
def tyOf (x : Str) : Option String :=
  if x = "int" then some "int" else if x = "str" then some "str" else if x = "bool" then some "bool" else if x = "tuple" then some "tuple" else if x = "list" then some "list" else if x = "dict" then some "dict" else if x = "ValueError" then some "ValueError" else none
/-- isinstance's second argument -/
def clsOf (gt : Gt) (ct : Ct) : Expr → Option (Nat ⊕ String)
  | .Name x _ => if plainNm x then match glOf gt ct x with
    | some (.exc c) => some (.inl c)
    | some (.cls c) => some (.inl c)
    | _ => if blOk gt ct x then (tyOf x).map .inr else none
    else none
  | _ => none
/-- tests that ask the value's truth -/
def truthOk : Expr → Bool
  | .Name _ _ => true
  | .Call _ _ _ _ => true
  | .Attribute _ _ _ => true
  | .Subscript _ _ _ => true
  | .BinOp _ _ _ _ => true
  | .ListComp _ _ _ _ => true
  | .Constant _ _ _ => true
  | _ => false
def noSlice : Expr → Bool
  | .Slice _ _ _ _ => false
  | _ => true
def noSetE : Expr → Bool
  | .Set _ _ _ => false
  | _ => true
/-- what an attribute may be asked of -/
def attrOk : Expr → Bool
  | .Name _ _ => true
  | .Attribute _ _ _ => true
  | .Subscript _ _ _ => true
  | .Call (.Name id _) [] [] _ => id != ("super" : Str)
  | .Call (.Name _ _) (_ :: _) _ _ => true
  | .Call (.Attribute _ _ _) _ _ _ => true
  | _ => false
def mOf (m : Str) : Option Bi := if m = "split" then some .split else if m = "join" then some .join else if m = "index" then some .index else none
/-- what a method may be asked of -/
def recvE : Expr → Bool
  | .Call (.Name id _) [] [] _ => id != ("super" : Str)
  | .Call (.Name _ _) (_ :: _) _ _ => true
  | .Call (.Attribute _ _ _) _ _ _ => true
  | .Call _ _ _ _ => false
  | _ => true
def noPar (a : Arguments) : Bool := a.posonlyargs.isEmpty && a.args.isEmpty && a.vararg.isNone && a.kwonlyargs.isEmpty && a.kw_defaults.isEmpty && a.kwarg.isNone && a.defaults.isEmpty
def lamC (ct : Ct) (params : Arguments) (scope : Scope) : Bool := noPar params && LamX.lamSB ⟨.function, ct.vs, false, false, []⟩ scope
/-- what is not compiled is bad -/
def orBad (e : Expr) (o : Option Ex) : Option Ex := if isStar e then none else some (o.getD .bad)
def orBadC (o : Option Cn) : Option Cn := some (o.getD (.ex .bad))
def keysOf : List (Option Expr) → Option (List Key)
  | [] => some []
  | some (.Constant (.int j) _ _) :: r => (keysOf r).map fun ks => .inl j :: ks
  | some (.Constant (.str y) _ _) :: r => (keysOf r).map fun ks => .inr y :: ks
  | _ => none
/-- a comprehension's block: its names with their places -/
def ownOf (N : List Str) (scope : Scope) : List (Str × Nat) := scope.names.filterMap fun y => match y.2 with
  | .local => (ixOf y.1 N).map fun i => (y.1, i)
  | .cell => (ixOf y.1 N).map fun i => (y.1, i)
  | _ => none
def blkCt (ct : Ct) (scope : Scope) : Ct := ⟨ct.N, scope.names.map (fun (n, k) => if (k == .free && ct.vs.lookup n == some .cell) then (n, .cell) else (n, k)), scope.names⟩

mutual
def cE (gt : Gt) (ct : Ct) : Nat → Expr → Option Ex
  | n + 1, e => orBad e (match e with
    | .Constant (.int i) _ _ => some (.cst (.int i))
    | .Constant (.bool b) _ _ => some (.cst (.bl b))
    | .Constant .none _ _ => some (.cst .non)
    | .Constant (.str s) _ _ => some (.cst (.str s))
    | .Name x _ => match varE ct x with
      | some i => some (.var i)
      | none => if plainNm x then match glOf gt ct x with
        | some (.cst d) => some (.cst d)
        | _ => none
        else none
    | .BinOp a op b _ => (cE gt ct n a).bind fun a' => (cE gt ct n b).map fun b' => .bin op a' b'
    | .UnaryOp .USub a _ => (cE gt ct n a).map .neg
    | .UnaryOp .Not a _ => (cE gt ct n a).map .not
    | .Compare a [op] [b] _ => if noSetE b then (cE gt ct n a).bind fun a' => (cE gt ct n b).map fun b' => .cmp op a' b' else none
    | .Compare a [op, op'] [b, c] _ => if noSetE b && noSetE c then (cE gt ct n a).bind fun a' => (cE gt ct n b).bind fun b' => (cE gt ct n c).map fun c' => .chain op op' a' b' c' else none
    | .BoolOp _ [a] _ => (cE gt ct n a).map fun a' => .and (.cst (.bl true)) a'
    | .BoolOp .And (a :: b :: r) p => (cE gt ct n a).bind fun a' => (cE gt ct n (.BoolOp .And (b :: r) p)).map fun b' => .and a' b'
    | .BoolOp .Or (a :: b :: r) p => (cE gt ct n a).bind fun a' => (cE gt ct n (.BoolOp .Or (b :: r) p)).map fun b' => .or a' b'
    | .IfExp c a b _ => (cC gt ct n c).bind fun c' => (cE gt ct n a).bind fun a' => (cE gt ct n b).map fun b' => .ite c' a' b'
    | .Tuple es _ _ => (cDs gt ct n es).map .tup
    | .List es _ => (cDs gt ct n es).map .lst
    | .Dict [] [] _ => some (.dic [] .nil)
    | .Dict [none, some k] [b, v] _ => (cE gt ct n b).bind fun b' => (cE gt ct n k).bind fun k' => (cE gt ct n v).map fun v' => .dicS b' k' v'
    | .Dict keys values _ => if keys.length = values.length ∧ keys.length ≤ 15 ∧ keys ≠ [] then (keysOf keys).bind fun ks => (cEs gt ct n values).map fun vs => .dic ks vs else none
    | .Attribute a f _ => if attrOk a then (cE gt ct n a).bind fun a' => (ixOf f gt.nm).map fun i => .fld a' i else none
    | .Subscript a (.Slice none none (some (.UnaryOp .USub (.Constant (.int 1) _ _) _)) _) _ => (cE gt ct n a).map .rev
    | .Subscript a (.Slice lo hi none _) _ => (cE gt ct n a).bind fun a' => (cP gt ct n lo).bind fun l => (cP gt ct n hi).map fun h => .sl a' l h
    | .Subscript a i _ => if noSlice i then (cE gt ct n a).bind fun a' => (cE gt ct n i).map fun i' => .ix a' i' else none
    | .ListComp elt [⟨tg, it, ifs, 0⟩] scope _ => if noSetE it && blkC ct.N ⟨.function, ct.vs, false, false, []⟩ scope (ownOf ct.N scope) then
        (cIt gt ct n tg it).bind fun it' => (cTg (blkCt ct scope) n tg).bind fun tg' => (cIfs gt (blkCt ct scope) n ifs).bind fun c' => (cE gt (blkCt ct scope) n elt).map fun e' => .comp e' tg' it' c' ((ownOf ct.N scope).map (·.2)) else none
    | .Call (.Name x _) args [] _ => match glOf gt ct x with
      | some (.fn f) => if plainNm x then (cAs gt ct n (gt.ow.getD f []) args).map fun as => .call f as else none
      | some (.exc c) => if plainNm x then match args with
        | [a] => (cE gt ct n a).map fun a' => .mkexc c a'
        | _ => none
        else none
      | some (.cls c) => if plainNm x && gt.mks.getD c false then match args with
        | [] => none
        | a :: r => (cAs gt ct n [] (a :: r)).map fun as => .make c as
        else none
      | some (.cst _) => none
      | some (.told c) => if plainNm x && gt.lam then match args with
        | [.Lambda params body scope _] => if lamC ct params scope then (cE { gt with lam := false } ⟨ct.N, scope.names, []⟩ n body).map fun b => .told c b else none
        | _ => none
        else none
      | none => if blOk gt ct x then
          if x = "isinstance" then match args with
            | [a, c] => (clsOf gt ct c).bind fun c' => (cE gt ct n a).map fun a' => .isi a' c'
            | _ => none
          else match lrOf gt ct x args with
            | some it => (cR gt ct n it).map .lrng
            | none => match args with
              | [] => none
              | a :: r => (biOf x (a :: r).length).bind fun b => (cEs gt ct n (a :: r)).map fun xs => .bi b xs
        else none
    | .Call (.Attribute o m apos) args [] cpos => if recvE o && apos.endLine == cpos.line then match args with
      | [] => if m = "upper" then (cE gt ct n o).map fun o' => .bi .upper (.cons false o' .nil) else none
      | [e] => if isStar e then none else match mOf m with
        | some b => (cE gt ct n o).bind fun o' => (cE gt ct n e).map fun e' => .m1 b o' e'
        | none => if m = "pop" then match o with
          | .Name x _ => (varE ct x).bind fun i => (cE gt ct n e).map fun e' => .pop i e'
          | _ => none
          else none
      | [e, f] => if isStar e || isStar f then none else if m = "get" then (cE gt ct n o).bind fun o' => (cE gt ct n e).bind fun e' => (cE gt ct n f).map fun f' => .m2 .get o' e' f' else none
      | _ => none
      else none
    | _ => none)
  | 0, _ => none
/-- list(range(..))'s range -/
def lrOf (gt : Gt) (ct : Ct) : Str → List Expr → Option (List Expr)
  | x, [.Call (.Name r _) as [] _] => if x = "list" ∧ r = "range" ∧ blOk gt ct r then some as else none
  | _, _ => none
def cR (gt : Gt) (ct : Ct) : Nat → List Expr → Option It
  | n + 1, [a] => (cE gt ct n a).map .rng1
  | n + 1, [a, b] => (cE gt ct n a).bind fun a' => (cE gt ct n b).map fun b' => .rng2 a' b'
  | _, _ => none
def cP (gt : Gt) (ct : Ct) : Nat → Option Expr → Option Ex
  | _, none => some .none
  | n + 1, some e => (cE gt ct n e).bind fun e' => if noneE e' then none else some e'
  | _, _ => none
def cC (gt : Gt) (ct : Ct) : Nat → Expr → Option Cn
  | n + 1, e => orBadC (match e with
    | .UnaryOp .Not a _ => (cC gt ct n a).map .not
    | .BoolOp _ [a] _ => cC gt ct n a
    | .BoolOp .And (a :: b :: r) p => (cC gt ct n a).bind fun a' => (cC gt ct n (.BoolOp .And (b :: r) p)).map fun b' => .and a' b'
    | .BoolOp .Or (a :: b :: r) p => (cC gt ct n a).bind fun a' => (cC gt ct n (.BoolOp .Or (b :: r) p)).map fun b' => .or a' b'
    | .Compare a [op] [b] _ => if noSetE b then (cE gt ct n a).bind fun a' => (cE gt ct n b).map fun b' => .ex (.cmp op a' b') else none
    | .Compare a [op, op'] [b, c] _ => if noSetE b && noSetE c then (cE gt ct n a).bind fun a' => (cE gt ct n b).bind fun b' => (cE gt ct n c).map fun c' => .ex (.chain op op' a' b' c') else none
    | e => if truthOk e then (cE gt ct n e).map .ex else none)
  | 0, _ => none
def cIfs (gt : Gt) (ct : Ct) : Nat → List Expr → Option Cn
  | _, [] => some .tt
  | n + 1, [c] => cC gt ct n c
  | _, _ => none
def cEs (gt : Gt) (ct : Ct) : Nat → List Expr → Option Exs
  | _, [] => some .nil
  | n + 1, e :: es => if isStar e then none else (cE gt ct n e).bind fun e' => (cEs gt ct n es).map fun r => .cons false e' r
  | _, _ => none
/-- a display's items -/
def cDs (gt : Gt) (ct : Ct) : Nat → List Expr → Option Exs
  | _, [] => some .nil
  | n + 1, .Starred e _ :: es => (cE gt ct n e).bind fun e' => (cDs gt ct n es).map fun r => .cons true e' r
  | n + 1, e :: es => (cE gt ct n e).bind fun e' => (cDs gt ct n es).map fun r => .cons false e' r
  | _, _ => none
/-- the right sides of a parallel assignment -/
def cPs (gt : Gt) (ct : Ct) : Nat → List Expr → Option Exs
  | _, [] => some .nil
  | n + 1, e :: es => if isStar e then none else (cE gt ct n e).bind fun e' => (cPs gt ct n es).map fun r => .cons (varOf e').isSome e' r
  | _, _ => none
def cAs (gt : Gt) (ct : Ct) : Nat → List Bool → List Expr → Option Exs
  | _, _, [] => some .nil
  | n + 1, o, e :: es => if isStar e then none else (cE gt ct n e).bind fun e' => (cAs gt ct n o.tail es).map fun r => .cons (!o.headD false) e' r
  | _, _, _ => none
def cIt (gt : Gt) (ct : Ct) : Nat → Expr → Expr → Option It
  | n + 1, tg, it => match it with
    | .Call (.Name x _) args [] _ => if blOk gt ct x && x == "range" then cR gt ct n args
        else if blOk gt ct x && x == "enumerate" then match tg, args with
          | .Tuple _ _ _, [a] => if isStar a then none else (cE gt ct n a).map .enum
          | _, _ => none
        else if blOk gt ct x && x == "zip" then match tg, args with
          | .Tuple _ _ _, [a, b] => if isStar a || isStar b then none else (cE gt ct n a).bind fun a' => (cE gt ct n b).map fun b' => .zip2 a' b'
          | _, _ => none
        else (cE gt ct n it).map .seq
    | it => (cE gt ct n it).map .seq
  | 0, _, _ => none
end
end Eg
set_option Elab.async false
set_option linter.all false
set_option maxRecDepth 100000
set_option maxHeartbeats 4000000
/-! the engine: what is compiled is what runs (expressions) -/
namespace Eg
open PySem PySem.Spec PyProof.Rows L2

def nmOf (gt : Gt) (n : Nat) : Str := gt.nm[n]?.getD ""
structure GCore (W : Wd) (X : Cx) (S : Stat) (F : Nat → Env → OutF) (gt : Gt) : Prop where
  fn : ∀ x f, gt.gs.lookup x = some (.fn f) → ∃ fa, X.mg x = some (.ref fa) ∧ FnAt W X F f fa
  exc : ∀ x c, gt.gs.lookup x = some (.exc c) → X.mg x = some (.ref (W.cA c)) ∧ XF X.prog X.K (W.cA c)
  cls : ∀ x c, gt.gs.lookup x = some (.cls c) → X.mg x = some (.ref (W.cA c))
  cst : ∀ x d, gt.gs.lookup x = some (.cst d) → ∃ u v, X.mg x = some u ∧ RelV v u ∧ ∀ H, Rep W H d v
  mks : ∀ x c, gt.gs.lookup x = some (.cls c) → gt.mks.getD c false = true → MkAt W X S F c
  told : ∀ x c, gt.gs.lookup x = some (.told c) → ∃ t g, ToldAt X t x g (W.cA c)
  sup : X.mg "super" = none
  bl : ∀ x, bls.contains x = true → gt.gs.lookup x = none → X.mg x = none
  wok : WOk W S
  xm : XmOk W S
  fld : FldOk W S (nmOf gt)
  prop : PropAt W X S F (nmOf gt)
  room : X.A.depth + 1 < recursionLimit
  sys : SysOk X.K
/-- the same world, seen from another frame -/
structure SameW (X Y : Cx) : Prop where
  prog : Y.prog = X.prog
  w : Y.w = X.w
  K : Y.K = X.K
  mg : Y.mg = X.mg
  base : Y.base = X.base
structure GOk (W : Wd) (X : Cx) (S : Stat) (F : Nat → Env → OutF) (gt : Gt) : Prop extends GCore W X S F gt where
  up : gt.lam = true → ∃ k0, 7 ≤ k0 ∧ Room (k0 + 2) X.A ∧ ∀ Y, SameW X Y → Room k0 Y.A → GCore W Y S F gt
  lam : gt.lam = true → LamAt W X
section
variable {W : Wd} {Wx : WX} {X : Cx} {S : Stat} {F : Nat → Env → OutF} {gt : Gt} {ct : Ct} {pos p : Pos}
theorem GCore.blk {s : Shared} {H : Hp} {C : Addr} {cl : List (Str × Addr)} {fp : List Addr} {scope : Scope} (G : GCore W X S F gt) : GCore W (X.blk s H scope (compEnvC scope cl C X.env) fp) S F gt :=
  ⟨fun x f h => let ⟨fa, h1, h2⟩ := G.fn x f h; ⟨fa, h1, ⟨h2.ok, h2.kp⟩⟩, G.exc, G.cls, G.cst, fun x c h k => let ⟨f, fa, h1, h2, h3⟩ := (G.mks x c h k).ok; ⟨f, fa, h1, h2, ⟨h3.ok, h3.kp⟩⟩, fun x c h => let ⟨t, g, h1⟩ := G.told x c h; ⟨t, g, ⟨h1.fn, h1.kp, h1.mg, h1.me⟩⟩,
    G.sup, G.bl, G.wok, G.xm, G.fld, ⟨fun c n f h => let ⟨pa, ga, h1, h2, h3⟩ := G.prop.at_ c n f h; ⟨pa, ga, h1, h2, ⟨h3.ok, h3.kp⟩⟩⟩, G.room, G.sys⟩
theorem GOk.blk {s : Shared} {H : Hp} {C : Addr} {cl : List (Str × Addr)} {fp : List Addr} {scope : Scope} (G : GOk W X S F gt) : GOk W (X.blk s H scope (compEnvC scope cl C X.env) fp) S F gt :=
  ⟨G.toGCore.blk, fun hl => let ⟨k0, h0, h1, h2⟩ := G.up hl; ⟨k0, h0, h1, fun Y q r => h2 Y ⟨q.prog, q.w, q.K, q.mg, q.base⟩ r⟩, fun h => ⟨(G.lam h).ok⟩⟩
theorem GCore.nolam (G : GCore W X S F gt) : GCore W X S F { gt with lam := false } := ⟨G.fn, G.exc, G.cls, G.cst, G.mks, G.told, G.sup, G.bl, G.wok, G.xm, G.fld, G.prop, G.room, G.sys⟩
theorem pe_bad {e : Expr} : PE X e (tE W Wx fun _ => .bad) := ⟨fun pins s σ H Q I ⟨C, ρ, rel, q⟩ => q.elim⟩
theorem pt_bad {e : Expr} : PT X e (tTe W Wx fun _ => .bad) := ⟨fun pins s σ H Q I ⟨C, ρ, rel, q⟩ => q.elim⟩
theorem pw_bad {e : Expr} : PW X e (tTe W Wx fun _ => .bad) := ⟨fun _ pins s σ H Q I ⟨C, ρ, rel, q⟩ => q.elim⟩
theorem up_some {t u : T} (h : (t.shal.bind fun x => biD reprD .upper [x]) = some u) : ∃ z, t = .fr (.str z) ∧ z.length ≤ 5592405 ∧ u = .fr (.str (Txt.upper z)) := by
  obtain ⟨d, h1, h2⟩ := Option.bind_eq_some_iff.mp h
  cases d <;> simp only [biD, reduceCtorEq] at h2
  rename_i z
  split at h2
  · rename_i hc
    cases h2
    refine ⟨z, ?_, of_decide_eq_true hc, rfl⟩
    cases t with
    | fr d => simp only [T.shal, Option.some.injEq] at h1; rw [h1]
    | lst ts => simp only [T.shal] at h1; obtain ⟨_, _, h3⟩ := Option.map_eq_some_iff.mp h1; cases h3
    | dic ks ts => simp only [T.shal] at h1; obtain ⟨_, _, h3⟩ := Option.map_eq_some_iff.mp h1; cases h3
    | ins c ts => simp only [T.shal] at h1; obtain ⟨_, _, h3⟩ := Option.map_eq_some_iff.mp h1; cases h3
  · cases h2
theorem sb_upperB {o : Expr} {eb : Env → Out T} {apos cpos : Pos} (ho : PE X o (tBo W Wx eb)) (hbase : attributeBase o "upper" X.env (eval o X.env) = eval o X.env) (hline : (apos.endLine == cpos.line) = true) :
    PE X (.Call (.Attribute o "upper" apos) [] [] cpos) (tE W Wx fun ρ => (eb ρ).bind fun x ρ => Out.of ρ (x.shal.bind fun x => biD reprD .upper [x])) := by
  refine (pe_m0 F.slot_str_upper F.type_str_upper mt_upper ho hbase hline).mono fun σ H Q ⟨C, ρ, rel, q⟩ => ⟨C, ρ, rel, ?_⟩
  refine wB_bind wE_x wE_b wE_m q fun t ρ1 v H1 e1 r1 ⟨fp, ow⟩ q1 => ?_
  cases ht : (t.shal.bind fun x => biD reprD .upper [x]) with
  | none => rw [ht] at q1; exact q1.elim
  | some u =>
    rw [ht] at q1
    obtain ⟨z, rfl, hz, rfl⟩ := up_some ht
    obtain ⟨rp, rfl⟩ := own_fr ow
    cases rp
    exact ⟨⟨_, rfl⟩, _, rfl, rfl, hz, q1 _ H1 (Ext.refl _) (r1.relT (.str _))⟩
theorem orBad_ok {e : Expr} {o : Option Ex} {ir : Ex} (h : orBad e o = some ir) : o = some ir ∨ (ir = .bad ∧ isStar e = false) := by
  unfold orBad at h
  split at h
  · cases h
  · rename_i hs
    cases o with
    | none => cases h; exact .inr ⟨rfl, by simpa using hs⟩
    | some x => cases h; exact .inl rfl
theorem orBadC_ok {o : Option Cn} {c : Cn} (h : orBadC o = some c) : o = some c ∨ c = .ex .bad := by
  unfold orBadC at h
  cases o with
  | none => cases h; exact .inr rfl
  | some x => cases h; exact .inl rfl
theorem noPar_eq {a : Arguments} (h : noPar a = true) : a = ⟨[], [], none, [], [], none, []⟩ := by
  obtain ⟨a1, a2, a3, a4, a5, a6, a7⟩ := a
  simp only [noPar, Bool.and_eq_true, List.isEmpty_iff, Option.isNone_iff_eq_none] at h
  obtain ⟨⟨⟨⟨⟨⟨rfl, rfl⟩, rfl⟩, rfl⟩, rfl⟩, rfl⟩, rfl⟩ := h
  rfl
theorem lam_def {X : Cx} : defaultsOf ⟨[], [], none, [], [], none, []⟩ X.env = ([], []) := by rfl
theorem lam_bind {body : Expr} {scope : Scope} : ∀ (q : Str) (cl : List (Str × Addr)) (pm cv ctv : Value), bindArgs (PySem.W.kla_fn "<lambda>" q ⟨[], [], none, [], [], none, []⟩ body scope cl pm cv ctv) ⟨[], []⟩ = pure [] := fun q cl pm cv ctv => by rfl
theorem recv_base {o : Expr} {mm : Str} (h : recvE o = true) : attributeBase o mm X.env (eval o X.env) = eval o X.env := by
  unfold recvE at h
  split at h
  · exact abase_call h
  · rfl
  · rfl
  · cases h
  · rename_i h1 h2 h3 h4
    cases o <;> first | rfl | exact (h4 _ _ _ _ rfl).elim
theorem mOf_ok {m : Str} {b : Bi} (h : mOf m = some b) : m = mName b ∧ b ≠ .get := by
  unfold mOf at h
  split at h
  · rename_i z; cases h; exact ⟨z, by decide⟩
  · split at h
    · rename_i z; cases h; exact ⟨z, by decide⟩
    · split at h
      · rename_i z; cases h; exact ⟨z, by decide⟩
      · cases h
/-- a compiled expression -/
structure Sd (W : Wd) (Wx : WX) (X : Cx) (S : Stat) (F : Nat → Env → OutF) (e : Expr) (ir : Ex) : Prop where
  pe : PE X e (tE W Wx fun ρ => evE S reprD F ir ρ)
  nv : ∀ i, varOf ir = some i → ∃ x q, e = .Name x q ∧ X.N[i]? = some x ∧ Vis X.env.scope x ∧ (x == ("__debug__" : Str)) = false ∧ (x == ("__classdict__" : Str)) = false
  ns : isStar e = false
theorem Sd.d {e : Expr} {ir : Ex} (h : Sd W Wx X S F e ir) : PE X e (tD W Wx fun ρ => freezeO (evE S reprD F ir ρ)) := pe_frz h.pe
theorem Sd.look {e : Expr} {ir : Ex} (h : Sd W Wx X S F e ir) : PE X e (tBo W Wx fun ρ => lookO ir ρ (evE S reprD F ir ρ)) := by
  unfold lookO
  cases hv : varOf ir with
  | none => exact pe_look h.d
  | some i =>
    obtain ⟨x, q, rfl, h1, h2, h3, h4⟩ := h.nv i hv
    exact sb_bvar h1 h2 h3 h4
theorem var_ok {x : Str} {i : Nat} (ok : CtOk ct X) (h : varE ct x = some i) : X.N[i]? = some x ∧ Vis X.env.scope x ∧ (x == ("__debug__" : Str)) = false ∧ (x == ("__classdict__" : Str)) = false := by
  unfold varE at h
  split at h
  · rename_i hc
    rw [Bool.and_eq_true] at hc
    have hp := hc.2
    unfold plainNm at hp
    simp only [Bool.and_eq_true, Bool.not_eq_true'] at hp
    exact ⟨by rw [ok.N]; exact ixOf_get h, isVis_ok (by rw [ok.vs]; exact hc.1), hp.1, hp.2⟩
  · cases h
theorem bl_ok {x : Str} (G : GOk W X S F gt) (ok : CtOk ct X) (h : blOk gt ct x = true) : Gl X x ∧ X.mg x = none ∧ bls.contains x = true := by
  unfold blOk at h
  simp only [Bool.and_eq_true] at h
  obtain ⟨⟨h1, h2⟩, h3⟩ := h
  refine ⟨?_, G.bl x h2 (by simpa using h3), h2⟩
  show X.env.scope.names.lookup x = _
  rw [ok.vs]
  split at h1
  · assumption
  · cases h1
theorem gl_ok {x : Str} {k : Gk} (ok : CtOk ct X) (h : glOf gt ct x = some k) : Gl X x ∧ gt.gs.lookup x = some k := by
  unfold glOf at h
  split at h
  · rename_i e
    refine ⟨?_, h⟩
    show X.env.scope.names.lookup x = _
    rw [ok.vs]; exact e
  · cases h
theorem plain_db {x : Str} (h : plainNm x = true) : (x == ("__debug__" : Str)) = false := by
  unfold plainNm at h
  simp only [Bool.and_eq_true, Bool.not_eq_true'] at h
  exact h.1
theorem truth_is {e : Expr} (h : truthOk e = true) : ∀ whole, isTrue e X.env whole = (do let v ← whole; standAt e.pos; holding [v] (truthy v)) := by
  cases e <;> first | (intro _; rfl) | cases h
theorem attr_base {e : Expr} {f : Str} (h : attrOk e = true) : attributeBase e f X.env (eval e X.env) = eval e X.env := by
  unfold attrOk at h
  split at h
  · rfl
  · rfl
  · rfl
  · exact abase_call h
  · rfl
  · rfl
  · cases h
theorem nset {e : Expr} (h : noSetE e = true) : ∀ elts k q, e ≠ .Set elts k q := fun _ _ _ z => by subst z; cases h
theorem noslice_ix {e : Expr} (h : noSlice e = true) : PlainIx e := by
  intro o i
  cases e <;> first | rfl | cases h
theorem keys_pd {keys : List (Option Expr)} {ks : List Key} (h : keysOf keys = some ks) : keys.all (·.isSome) = true ∧ ks.length = keys.length := by
  induction keys generalizing ks with
  | nil => simp [keysOf] at h; subst h; exact ⟨rfl, rfl⟩
  | cons k r ih =>
    unfold keysOf at h
    split at h
    · cases ‹_ :: _ = _›
    · rename_i e; cases e
      obtain ⟨ks', h1, rfl⟩ := Option.map_eq_some_iff.mp h
      obtain ⟨h2, h3⟩ := ih h1
      exact ⟨by simp [h2], by simp [h3]⟩
    · rename_i e; cases e
      obtain ⟨ks', h1, rfl⟩ := Option.map_eq_some_iff.mp h
      obtain ⟨h2, h3⟩ := ih h1
      exact ⟨by simp [h2], by simp [h3]⟩
    · cases h
/-- the built-in functions -/
theorem bi_ok {x : Str} {n : Nat} {b : Bi} {e : Expr} {es : List Expr} (g : GX W Wx X) (sys : SysOk X.K) (hg : Gl X x) (hm : X.mg x = none) (h : biOf x n = some b) (hs : ((e :: es).all fun e => !isStar e) = true) :
    ∃ f, CallD W X f (biD reprD b) ∧ ∀ {r : List V → Hp → VK → Prop} {t : TA}, CallR X f r → PA X (e :: es) t → PE X (.Call (.Name x p) (e :: es) [] pos) (tCB r t) := by
  simp only [List.all_cons, Bool.and_eq_true, Bool.not_eq_true'] at hs
  have s1 := plain_star (es := es) (env := X.env) (isStar_ne hs.1)
  have s2 := nostar_any (pos := pos) (env := X.env) hs.2
  unfold biOf at h
  split at h
  · rename_i z; obtain ⟨rfl, _⟩ := z; cases h
    exact ⟨_, c_str, fun hc ha => pe_callTy hc hg hm (by decide +kernel) ha (by decide) (by decide) s1 s2⟩
  unfold biOf0 at h
  split at h
  · rename_i z; obtain ⟨rfl, _⟩ := z; cases h
    exact ⟨_, c_len g.hK, fun hc ha => pe_callB hc hg hm (by decide +kernel) ha (by decide) (by decide) s1 s2⟩
  split at h
  · rename_i z; obtain ⟨rfl, _⟩ := z; cases h
    exact ⟨_, c_int, fun hc ha => pe_callTy hc hg hm (by decide +kernel) ha (by decide) (by decide) s1 s2⟩
  split at h
  · rename_i z; obtain ⟨rfl, _⟩ := z; cases h
    exact ⟨_, c_abs, fun hc ha => pe_callB hc hg hm (by decide +kernel) ha (by decide) (by decide) s1 s2⟩
  split at h
  · rename_i z; obtain ⟨rfl, _⟩ := z; cases h
    exact ⟨_, c_list g.hK, fun hc ha => pe_callTy hc hg hm (by decide +kernel) ha (by decide) (by decide) s1 s2⟩
  split at h
  · rename_i z; obtain ⟨rfl, _⟩ := z; cases h
    exact ⟨_, c_tuple g.hK, fun hc ha => pe_callTy hc hg hm (by decide +kernel) ha (by decide) (by decide) s1 s2⟩
  split at h
  · rename_i z; obtain ⟨rfl, _⟩ := z; cases h
    exact ⟨_, c_repr g sys, fun hc ha => pe_callB hc hg hm (by decide +kernel) ha (by decide) (by decide) s1 s2⟩
  split at h
  · rename_i z; obtain ⟨rfl, _⟩ := z; cases h
    exact ⟨_, c_all g.hK g.calm, fun hc ha => pe_callB hc hg hm (by decide +kernel) ha (by decide) (by decide) s1 s2⟩
  split at h
  · rename_i z; obtain ⟨rfl, _⟩ := z; cases h
    exact ⟨_, c_any g.hK g.calm, fun hc ha => pe_callB hc hg hm (by decide +kernel) ha (by decide) (by decide) s1 s2⟩
  split at h
  · rename_i z; obtain ⟨rfl, _⟩ := z; cases h
    exact ⟨_, c_sum g.hK g.calm, fun hc ha => pe_callB hc hg hm (by decide +kernel) ha (by decide) (by decide) s1 s2⟩
  split at h
  · rename_i z; obtain ⟨rfl, _⟩ := z; cases h
    exact ⟨_, c_max2 g.calm, fun hc ha => pe_callB hc hg hm (by decide +kernel) ha (by decide) (by decide) s1 s2⟩
  split at h
  · rename_i z; obtain ⟨rfl, _⟩ := z; cases h
    exact ⟨_, c_min2 g.calm, fun hc ha => pe_callB hc hg hm (by decide +kernel) ha (by decide) (by decide) s1 s2⟩
  cases h
/-- a class's name -/
theorem cls_ok {e : Expr} {c : Nat ⊕ String} (G : GOk W X S F gt) (ok : CtOk ct X) (h : clsOf gt ct e = some c) : ∃ cv, PCls X e cv (clsVal W c) ∧ isStar e = false := by
  unfold clsOf at h
  split at h
  · rename_i x q
    split at h
    case isFalse => cases h
    rename_i hpl
    have hdb := plain_db hpl
    split at h
    · rename_i c' hg
      cases h
      obtain ⟨h1, h2⟩ := gl_ok ok hg
      exact ⟨_, ⟨pe_glob (v := V.ref (W.cA c')) h1 (G.exc x _ h2).1 rfl hdb, .own _⟩, rfl⟩
    · rename_i c' hg
      cases h
      obtain ⟨h1, h2⟩ := gl_ok ok hg
      exact ⟨_, ⟨pe_glob (v := V.ref (W.cA c')) h1 (G.cls x _ h2) rfl hdb, .own _⟩, rfl⟩
    · split at h
      · rename_i hb
        obtain ⟨h1, h2, _⟩ := bl_ok G ok hb
        obtain ⟨t, ht, rfl⟩ := Option.map_eq_some_iff.mp h
        have key : ∀ {T : String}, bootBuiltins x = some (.type T) → x ≠ "__name__" → ∃ cv, PCls X (.Name x q) cv (clsVal W (.inr T)) ∧ isStar (.Name x q) = false := fun {T} hb hn => ⟨.ty T, ⟨pe_bltn h1 h2 hb rfl hn hdb, .ty T⟩, rfl⟩
        unfold tyOf at ht
        split at ht
        · rename_i z; subst z; cases ht; exact key (by decide +kernel) (by decide)
        split at ht
        · rename_i z; subst z; cases ht; exact key (by decide +kernel) (by decide)
        split at ht
        · rename_i z; subst z; cases ht; exact key (by decide +kernel) (by decide)
        split at ht
        · rename_i z; subst z; cases ht; exact key (by decide +kernel) (by decide)
        split at ht
        · rename_i z; subst z; cases ht; exact key (by decide +kernel) (by decide)
        split at ht
        · rename_i z; subst z; cases ht; exact key (by decide +kernel) (by decide)
        split at ht
        · rename_i z; subst z; cases ht; exact key (by decide +kernel) (by decide)
        cases ht
      · cases h
  · cases h
/-- a block's names -/
theorem blk_ok {s : Shared} {H : Hp} {C : Addr} {cl : List (Str × Addr)} {fp : List Addr} {scope : Scope} (ok : CtOk ct X) (hk : scope.kind = .function) : CtOk (blkCt ct scope) (X.blk s H scope (compEnvC scope cl C X.env) fp) := by
  have en : (X.blk s H scope (compEnvC scope cl C X.env) fp).env.scope.names = (scope.names.map fun (n, k) => if (k == NameKind.free && X.env.scope.kind == ScopeKind.function && X.env.scope.names.lookup n == some NameKind.cell) then (n, NameKind.cell) else (n, k)) := rfl
  refine ⟨ok.N, ?_, hk, fun x hx => ?_⟩
  · rw [en, ok.vs, ok.kd]
    simp [blkCt]
  · have hx' : isLoc scope.names x = true := hx
    unfold isLoc at hx'
    split at hx'
    · rename_i e
      have := lookup_relS_keep (sc := X.env.scope) (by decide) e
      exact ⟨.inl this, .inr this⟩
    · rename_i e
      have := lookup_relS_keep (sc := X.env.scope) (by decide) e
      refine ⟨.inr this, .inl ?_⟩
      show (scope.names.lookup x == some .cell) = true
      rw [e]; rfl
    · cases hx'
theorem blkC_ok {scope : Scope} (ok : CtOk ct X) (h : blkC ct.N ⟨.function, ct.vs, false, false, []⟩ scope (ownOf ct.N scope) = true) : BlkOk X.N X.env.scope scope (ownOf ct.N scope) := by
  have b := blkOk_by h
  exact ⟨b.kind, b.uniq, by rw [ok.N]; exact b.ix, fun y hy e => by rw [ok.vs]; exact b.free y hy e, by rw [ok.N]; exact b.own⟩
end
end Eg
set_option Elab.async false
set_option linter.all false
set_option maxRecDepth 100000
set_option maxHeartbeats 8000000
/-! the engine: what is compiled is what runs -/
namespace Eg
open PySem PySem.Spec PyProof.Rows L2

section
variable {W : Wd} {S : Stat} {F : Nat → Env → OutF}
theorem folded_ok {X : Cx} {e : Expr} (h : noSetE e = true) : ∀ x, foldedSetIterable e X.env x = pure x := by
  intro x
  cases e <;> first | rfl | cases h
theorem Sd.mk' {Wx : WX} {X : Cx} {e : Expr} {ir : Ex} (h : PE X e (tE W Wx fun ρ => evE S reprD F ir ρ)) (hv : varOf ir = none) (hs : isStar e = false) : Sd W Wx X S F e ir :=
  ⟨h, fun i z => (by rw [hv] at z; cases z), hs⟩
mutual
theorem ok_E : ∀ (n : Nat) {gt : Gt} {X : Cx} {Wx : WX} {ct : Ct} {e : Expr} {ir : Ex}, GX W Wx X → GOk W X S F gt → CtOk ct X → cE gt ct n e = some ir → Sd W Wx X S F e ir
  | 0, gt, X, Wx, ct, e, ir, g, G, ok, h => by simp [cE] at h
  | n + 1, gt, X, Wx, ct, e, ir, g, G, ok, h => by
    unfold cE at h
    replace h := orBad_ok h
    rcases h with h | ⟨rfl, hstar⟩
    case inr => exact ⟨by simp only [evE]; exact pe_bad, fun i hi => by simp [varOf] at hi, hstar⟩
    split at h
    · cases h; exact .mk' (sb_const pe_int fun H => .int _) rfl rfl
    · cases h; exact .mk' (sb_const pe_bl fun H => .bl _) rfl rfl
    · cases h; exact .mk' (sb_const pe_non fun H => .non) rfl rfl
    · cases h; exact .mk' (sb_const pe_str fun H => .str _) rfl rfl
    · rename_i x q
      split at h
      · rename_i i h1
        cases h
        obtain ⟨k1, k2, k3, k4⟩ := var_ok ok h1
        exact ⟨sb_var k1 k2 k3 k4, fun j hj => by cases hj; exact ⟨x, q, rfl, k1, k2, k3, k4⟩, rfl⟩
      · split at h
        · rename_i hp
          split at h
          · rename_i d hg
            cases h
            obtain ⟨h1, h2⟩ := gl_ok ok hg
            obtain ⟨u, v, k1, k2, k3⟩ := G.cst x d h2
            exact .mk' (sb_const (pe_glob (v := v) h1 k1 k2 (plain_db hp)) k3) rfl rfl
          · cases h
        · cases h
    · obtain ⟨a', h1, h2⟩ := Option.bind_eq_some_iff.mp h
      obtain ⟨b', h3, rfl⟩ := Option.map_eq_some_iff.mp h2
      exact .mk' (sb_bin g (ok_E n g G ok h1).d (ok_E n g G ok h3).d) rfl rfl
    · obtain ⟨a', h1, rfl⟩ := Option.map_eq_some_iff.mp h
      exact .mk' (sb_neg (ok_E n g G ok h1).d) rfl rfl
    · obtain ⟨a', h1, rfl⟩ := Option.map_eq_some_iff.mp h
      exact .mk' (sb_not g (ok_E n g G ok h1).d) rfl rfl
    · split at h
      · rename_i hs
        obtain ⟨a', h1, h2⟩ := Option.bind_eq_some_iff.mp h
        obtain ⟨b', h3, rfl⟩ := Option.map_eq_some_iff.mp h2
        exact .mk' (sb_cmp g (nomarks (nset hs)) (ok_E n g G ok h1).d (ok_E n g G ok h3).look) rfl rfl
      · cases h
    · split at h
      · rename_i hs
        rw [Bool.and_eq_true] at hs
        obtain ⟨a', h1, h2⟩ := Option.bind_eq_some_iff.mp h
        obtain ⟨b', h3, h4⟩ := Option.bind_eq_some_iff.mp h2
        obtain ⟨c', h5, rfl⟩ := Option.map_eq_some_iff.mp h4
        exact .mk' (sb_chain g (lastM (nset hs.2) (nset hs.1)) (ok_E n g G ok h1).d (ok_E n g G ok h3).d (ok_E n g G ok h5).d) rfl rfl
      · cases h
    · obtain ⟨a', h1, rfl⟩ := Option.map_eq_some_iff.mp h
      exact .mk' (pe_one (ok_E n g G ok h1).pe) rfl rfl
    · obtain ⟨a', h1, h2⟩ := Option.bind_eq_some_iff.mp h
      obtain ⟨b', h3, rfl⟩ := Option.map_eq_some_iff.mp h2
      exact .mk' (sb_and g (ok_E n g G ok h1).d (ok_E n g G ok h3).pe) rfl rfl
    · obtain ⟨a', h1, h2⟩ := Option.bind_eq_some_iff.mp h
      obtain ⟨b', h3, rfl⟩ := Option.map_eq_some_iff.mp h2
      exact .mk' (sb_or g (ok_E n g G ok h1).d (ok_E n g G ok h3).pe) rfl rfl
    · obtain ⟨c', h0, h⟩ := Option.bind_eq_some_iff.mp h
      obtain ⟨a', h1, h2⟩ := Option.bind_eq_some_iff.mp h
      obtain ⟨b', h3, rfl⟩ := Option.map_eq_some_iff.mp h2
      exact .mk' (sb_ite (ok_C n g G ok h0).1 (ok_E n g G ok h1).pe (ok_E n g G ok h3).pe) rfl rfl
    · obtain ⟨xs, h1, rfl⟩ := Option.map_eq_some_iff.mp h
      exact .mk' (sb_tup (ok_D n g G ok h1)) rfl rfl
    · obtain ⟨xs, h1, rfl⟩ := Option.map_eq_some_iff.mp h
      exact .mk' (sb_lst (ok_D n g G ok h1)) rfl rfl
    · cases h; exact .mk' sb_dic0 rfl rfl
    · obtain ⟨b', h1, h2⟩ := Option.bind_eq_some_iff.mp h
      obtain ⟨k', h3, h4⟩ := Option.bind_eq_some_iff.mp h2
      obtain ⟨v', h5, rfl⟩ := Option.map_eq_some_iff.mp h4
      refine .mk' ?_ rfl rfl
      simp only [evE]
      exact sb_dicS (ok_E n g G ok h1).d (ok_E n g G ok h3).d (ok_E n g G ok h5).d
    · split at h
      · rename_i hc
        obtain ⟨ks, h1, h2⟩ := Option.bind_eq_some_iff.mp h
        obtain ⟨vs, h3, rfl⟩ := Option.map_eq_some_iff.mp h2
        exact .mk' (sb_dic (ok_K n g G ok hc.1 h1 h3) (keys_pd h1).1 hc.1 hc.2.2 hc.2.1) rfl rfl
      · cases h
    · rename_i af ff qf
      split at h
      · rename_i hc
        obtain ⟨a', h1, h2⟩ := Option.bind_eq_some_iff.mp h
        obtain ⟨i, h3, rfl⟩ := Option.map_eq_some_iff.mp h2
        have hn : nmOf gt i = ff := by unfold nmOf; rw [ixOf_get h3]; rfl
        have := sb_fld (nm := nmOf gt) (n := i) (pos := qf) g G.wok G.fld G.prop (ok_E n g G ok h1).look (attr_base hc)
        rw [hn] at this
        exact .mk' this rfl rfl
      · cases h
    · obtain ⟨a', h1, rfl⟩ := Option.map_eq_some_iff.mp h
      exact .mk' (sb_back g (ok_E n g G ok h1).d) rfl rfl
    · obtain ⟨a', h1, h2⟩ := Option.bind_eq_some_iff.mp h
      obtain ⟨l, h3, h4⟩ := Option.bind_eq_some_iff.mp h2
      obtain ⟨hh, h5, rfl⟩ := Option.map_eq_some_iff.mp h4
      have sd := ok_E n g G ok h1
      refine .mk' ?_ rfl rfl
      simp only [evE]
      cases hv : varOf a' with
      | none => exact sb_slE g sd.d (ok_P n g G ok h3) (ok_P n g G ok h5)
      | some k =>
        obtain ⟨x, q, rfl, k1, k2, k3, k4⟩ := sd.nv k hv
        exact sb_slV g k1 k2 k3 k4 (ok_P n g G ok h3) (ok_P n g G ok h5)
    · split at h
      · rename_i hc
        obtain ⟨a', h1, h2⟩ := Option.bind_eq_some_iff.mp h
        obtain ⟨i', h3, rfl⟩ := Option.map_eq_some_iff.mp h2
        have sd := ok_E n g G ok h1
        refine .mk' ?_ rfl rfl
        simp only [evE]
        cases hv : varOf a' with
        | none => exact sb_ixE g sd.d (ok_E n g G ok h3).d (noslice_ix hc)
        | some k =>
          obtain ⟨x, q, rfl, k1, k2, k3, k4⟩ := sd.nv k hv
          exact sb_ixV g k1 k2 k3 k4 (ok_E n g G ok h3).d (noslice_ix hc)
      · cases h
    · split at h
      · rename_i hc
        rw [Bool.and_eq_true] at hc
        obtain ⟨it', h1, h2⟩ := Option.bind_eq_some_iff.mp h
        obtain ⟨tg', h3, h4⟩ := Option.bind_eq_some_iff.mp h2
        obtain ⟨c', h5, h6⟩ := Option.bind_eq_some_iff.mp h4
        obtain ⟨e', h7, rfl⟩ := Option.map_eq_some_iff.mp h6
        have bo := blkC_ok ok hc.2
        refine .mk' ?_ rfl rfl
        exact sb_lc g (ok_T n g G ok h1) bo (fun s H C cl fp => pg_tg (g.blk) (blk_ok ok bo.kind) h3) (fun s H C cl fp => ok_I n g.blk G.blk (blk_ok ok bo.kind) h5) (fun s H C cl fp => (ok_E n g.blk G.blk (blk_ok ok bo.kind) h7).d) (folded_ok hc.1)
      · cases h
    · rename_i x q args q2
      split at h
      · rename_i f hg
        obtain ⟨h1, h2⟩ := gl_ok ok hg
        split at h
        · rename_i hp
          obtain ⟨as, h3, rfl⟩ := Option.map_eq_some_iff.mp h
          obtain ⟨fa, k1, k2⟩ := G.fn x f h2
          obtain ⟨a1, a2⟩ := ok_A n g G ok h3
          refine .mk' ?_ rfl rfl
          cases args with
          | nil =>
            have : as = .nil := by cases n <;> simp [cAs] at h3 <;> exact h3.symm
            subst this
            exact sb_call0 g k2 h1 k1 (plain_db hp)
          | cons a r => exact sb_call g k2 h1 k1 (plain_db hp) a2 a1
        · cases h
      · rename_i c hg
        obtain ⟨h1, h2⟩ := gl_ok ok hg
        split at h
        · rename_i hp
          split at h
          · obtain ⟨a', h3, rfl⟩ := Option.map_eq_some_iff.mp h
            obtain ⟨k1, k2⟩ := G.exc x c h2
            have sd := ok_E n g G ok h3
            exact .mk' (sb_mkexc (S := S) g k2 G.sup G.room h1 k1 (plain_db hp) sd.ns sd.d) rfl rfl
          · cases h
        · cases h
      · rename_i c hg
        obtain ⟨h1, h2⟩ := gl_ok ok hg
        split at h
        · rename_i hp
          rw [Bool.and_eq_true] at hp
          split at h
          · cases h
          · obtain ⟨as, h3, rfl⟩ := Option.map_eq_some_iff.mp h
            obtain ⟨a1, a2⟩ := ok_A n g G ok h3
            exact .mk' (sb_make g (G.mks x c h2 hp.2) h1 (G.cls x c h2) (plain_db hp.1) a2 a1) rfl rfl
        · cases h
      · cases h
      · rename_i c hg
        obtain ⟨h1, h2⟩ := gl_ok ok hg
        split at h
        · rename_i hp
          rw [Bool.and_eq_true] at hp
          split at h
          · rename_i params body scope lp
            split at h
            · rename_i hl
              rw [lamC, Bool.and_eq_true] at hl
              obtain ⟨b, h3, rfl⟩ := Option.map_eq_some_iff.mp h
              obtain ⟨t, gg, ta⟩ := G.told x c h2
              obtain ⟨k0, up0, up1, up2⟩ := G.up hp.2
              have L0 := LamX.lamS_by hl.2
              have L : LamX.LamS X.env.scope scope := ⟨L0.kind, L0.co, L0.gen, L0.own, fun y hy e => by have := L0.free y hy e; rw [ok.vs]; exact this⟩
              cases noPar_eq hl.1
              refine .mk' ?_ rfl rfl
              refine sb_told g G.wok G.xm ta (G.lam hp.2) h1 (plain_db hp.1) up1 L lam_def lam_bind fun A outer s H E f c' hr hgd => ?_
              have SW : SameW X (LamX.lamCx X A outer s H E scope f c') := ⟨rfl, rfl, rfl, rfl, rfl⟩
              have G0 := up2 _ SW hr
              refine (ok_E (gt := { gt with lam := false }) n (X := LamX.lamCx X A outer s H E scope f c') (Wx := fun cls d _ H => E cls d H) (ct := ⟨ct.N, scope.names, []⟩) ?_ ⟨G0.nolam, (fun z => nomatch z), fun z => nomatch z⟩ ⟨ok.N, rfl, L.kind, fun y hy => by simp [isLoc] at hy⟩ h3).d
              exact ⟨g.hK, rfl, g.nd, takes_of rfl rfl rfl rfl, by have := hr.un; show (A.deeper (LamX.lamEnv X scope s.heap.objs.size f c')).units + 300 < _; omega, hgd⟩
            · cases h
          · cases h
        · cases h
      · split at h
        · rename_i hb
          obtain ⟨h1, h2, h3⟩ := bl_ok G ok hb
          split at h
          · rename_i hx
            subst hx
            split at h
            · rename_i a c
              obtain ⟨c', k1, k2⟩ := Option.bind_eq_some_iff.mp h
              obtain ⟨a', k3, rfl⟩ := Option.map_eq_some_iff.mp k2
              have sd := ok_E n g G ok k3
              obtain ⟨cv, k4, k5⟩ := cls_ok G ok k1
              refine .mk' ?_ rfl rfl
              exact sb_isi G.wok g k4 sd.ns k5 sd.look fun hc ha => pe_callB hc h1 h2 (by decide +kernel) ha (by decide) (by decide) (plain_star (isStar_ne sd.ns)) (nostar_any (by simp [k5]))
            · cases h
          · split at h
            · rename_i it hl
              obtain ⟨I, k1, rfl⟩ := Option.map_eq_some_iff.mp h
              refine .mk' ?_ rfl rfl
              unfold lrOf at hl
              split at hl
              · split at hl
                · rename_i hc
                  cases hl
                  obtain ⟨rfl, rfl, hr⟩ := hc
                  obtain ⟨r1, r2, _⟩ := bl_ok G ok hr
                  exact ok_R n g G ok k1 h1 h2 r1 r2
                · cases hl
              · cases hl
            · split at h
              · cases h
              · rename_i a r _
                obtain ⟨b, k1, k2⟩ := Option.bind_eq_some_iff.mp h
                obtain ⟨xs, k3, rfl⟩ := Option.map_eq_some_iff.mp k2
                obtain ⟨l1, l2⟩ := ok_L n g G ok k3
                obtain ⟨f, f1, f2⟩ := bi_ok (p := q) (pos := q2) g G.sys h1 h2 k1 l2
                refine .mk' ?_ rfl rfl
                cases r with
                | nil =>
                  cases n with
                  | zero => simp [cEs] at k3
                  | succ m =>
                    simp only [cEs] at k3
                    split at k3
                    · cases k3
                    · rename_i hst
                      obtain ⟨a', m1, m2⟩ := Option.bind_eq_some_iff.mp k3
                      obtain ⟨r', m3, rfl⟩ := Option.map_eq_some_iff.mp m2
                      have : r' = .nil := by cases m <;> simp [cEs] at m3 <;> exact m3.symm
                      subst this
                      have sd := ok_E m g G ok m1
                      exact sb_bi1 f1 f2 (isStar_ne sd.ns) sd.look
                | cons a2 r2 =>
                  cases n with
                  | zero => simp [cEs] at k3
                  | succ m =>
                    have l1' := l1
                    simp only [cEs] at k3
                    split at k3
                    · cases k3
                    · obtain ⟨a', m1, m2⟩ := Option.bind_eq_some_iff.mp k3
                      obtain ⟨r', m3, rfl⟩ := Option.map_eq_some_iff.mp m2
                      cases m with
                      | zero => simp [cEs] at m3
                      | succ m' =>
                        simp only [cEs] at m3
                        split at m3
                        · cases m3
                        · obtain ⟨a3, m4, m5⟩ := Option.bind_eq_some_iff.mp m3
                          obtain ⟨r3, m6, rfl⟩ := Option.map_eq_some_iff.mp m5
                          exact sb_bis f1 f2 l1'
        · cases h
    · rename_i o m apos args cpos
      split at h
      · rename_i hc
        rw [Bool.and_eq_true] at hc
        have hbase : ∀ mm, attributeBase o mm X.env (eval o X.env) = eval o X.env := fun mm => recv_base hc.1
        split at h
        · split at h
          · rename_i hm
            subst hm
            obtain ⟨o', h1, rfl⟩ := Option.map_eq_some_iff.mp h
            exact .mk' (sb_upperB (ok_E n g G ok h1).look (hbase _) hc.2) rfl rfl
          · cases h
        · rename_i e1
          split at h
          · cases h
          · rename_i hs
            have hs' : isStar e1 = false := by simpa using hs
            split at h
            · rename_i b hb
              obtain ⟨o', h1, h2⟩ := Option.bind_eq_some_iff.mp h
              obtain ⟨e', h3, rfl⟩ := Option.map_eq_some_iff.mp h2
              obtain ⟨rfl, hbg⟩ := mOf_ok hb
              exact .mk' (sb_m1 g hbg (ok_E n g G ok h1).d (ok_E n g G ok h3).d hs' (hbase _) hc.2) rfl rfl
            · split at h
              · rename_i hm
                subst hm
                split at h
                · rename_i x q
                  obtain ⟨i, h1, h2⟩ := Option.bind_eq_some_iff.mp h
                  obtain ⟨e', h3, rfl⟩ := Option.map_eq_some_iff.mp h2
                  obtain ⟨k1, k2, k3, k4⟩ := var_ok ok h1
                  exact .mk' (sb_pop k1 k2 k3 k4 (ok_E n g G ok h3).d hs' hc.2) rfl rfl
                · cases h
              · cases h
        · rename_i e1 e2
          split at h
          · cases h
          · rename_i hs
            have hs' : isStar e1 = false ∧ isStar e2 = false := by simpa using hs
            split at h
            · rename_i hm
              subst hm
              obtain ⟨o', h1, h2⟩ := Option.bind_eq_some_iff.mp h
              obtain ⟨e', h3, h4⟩ := Option.bind_eq_some_iff.mp h2
              obtain ⟨f', h5, rfl⟩ := Option.map_eq_some_iff.mp h4
              exact .mk' (sb_m2 (b := .get) g rfl (ok_E n g G ok h1).d (ok_E n g G ok h3).d (ok_E n g G ok h5).d hs'.1 hs'.2 (hbase _) hc.2) rfl rfl
            · cases h
        · cases h
      · cases h
    · cases h
termination_by n => n
theorem ok_C : ∀ (n : Nat) {gt : Gt} {X : Cx} {Wx : WX} {ct : Ct} {e : Expr} {c : Cn}, GX W Wx X → GOk W X S F gt → CtOk ct X → cC gt ct n e = some c → PT X e (tTe W Wx fun ρ => evC S reprD F c ρ) ∧ ∀ op vs q, e = .BoolOp op vs q → PW X e (tTe W Wx fun ρ => evC S reprD F c ρ)
  | 0, gt, X, Wx, ct, e, c, g, G, ok, h => by simp [cC] at h
  | n + 1, gt, X, Wx, ct, e, c, g, G, ok, h => by
    unfold cC at h
    replace h := orBadC_ok h
    rcases h with h | rfl
    case inr => exact ⟨by simp only [evC, evE]; exact pt_bad, fun _ _ _ _ => by simp only [evC, evE]; exact pw_bad⟩
    split at h
    · obtain ⟨a', h1, rfl⟩ := Option.map_eq_some_iff.mp h
      exact ⟨sb_notT (ok_C n g G ok h1).1, fun _ _ _ z => nomatch z⟩
    · rename_i op a q
      have h1 := (ok_C n g G ok h).1
      have : PW X (.BoolOp op [a] q) (tTe W Wx fun ρ => evC S reprD F c ρ) := by
        cases op
        · exact pw_and1 h1
        · exact pw_or1 h1
      exact ⟨this.pt, fun _ _ _ _ => this⟩
    · obtain ⟨a', h1, h2⟩ := Option.bind_eq_some_iff.mp h
      obtain ⟨b', h3, rfl⟩ := Option.map_eq_some_iff.mp h2
      have := sb_andT (ok_C n g G ok h1).1 ((ok_C n g G ok h3).2 _ _ _ rfl)
      exact ⟨this.pt, fun _ _ _ _ => this⟩
    · obtain ⟨a', h1, h2⟩ := Option.bind_eq_some_iff.mp h
      obtain ⟨b', h3, rfl⟩ := Option.map_eq_some_iff.mp h2
      have := sb_orT (ok_C n g G ok h1).1 ((ok_C n g G ok h3).2 _ _ _ rfl)
      exact ⟨this.pt, fun _ _ _ _ => this⟩
    · split at h
      · rename_i hs
        obtain ⟨a', h1, h2⟩ := Option.bind_eq_some_iff.mp h
        obtain ⟨b', h3, rfl⟩ := Option.map_eq_some_iff.mp h2
        exact ⟨sb_cmpT g (nomarks (nset hs)) (ok_E n g G ok h1).d (ok_E n g G ok h3).look, fun _ _ _ z => nomatch z⟩
      · cases h
    · split at h
      · rename_i hs
        rw [Bool.and_eq_true] at hs
        obtain ⟨a', h1, h2⟩ := Option.bind_eq_some_iff.mp h
        obtain ⟨b', h3, h4⟩ := Option.bind_eq_some_iff.mp h2
        obtain ⟨c', h5, rfl⟩ := Option.map_eq_some_iff.mp h4
        exact ⟨sb_chainT g (lastM (nset hs.2) (nset hs.1)) (ok_E n g G ok h1).d (ok_E n g G ok h3).d (ok_E n g G ok h5).d, fun _ _ _ z => nomatch z⟩
      · cases h
    · split at h
      · rename_i ht
        obtain ⟨a', h1, rfl⟩ := Option.map_eq_some_iff.mp h
        exact ⟨sb_truth g (ok_E n g G ok h1).d (truth_is ht), fun _ _ _ z => by subst z; cases ht⟩
      · cases h
termination_by n => n
theorem ok_P : ∀ (n : Nat) {gt : Gt} {X : Cx} {Wx : WX} {ct : Ct} {e : Option Expr} {ir : Ex}, GX W Wx X → GOk W X S F gt → CtOk ct X → cP gt ct n e = some ir → PO X e (tOe W Wx fun ρ => partO ir ρ (evE S reprD F ir ρ))
  | n, gt, X, Wx, ct, none, ir, g, G, ok, h => by
    have : ir = .none := by cases n <;> simp [cP] at h <;> exact h.symm
    subst this
    exact sb_noPart
  | 0, gt, X, Wx, ct, some e, ir, g, G, ok, h => by simp [cP] at h
  | n + 1, gt, X, Wx, ct, some e, ir, g, G, ok, h => by
    simp only [cP] at h
    obtain ⟨e', h1, h2⟩ := Option.bind_eq_some_iff.mp h
    split at h2
    · cases h2
    · rename_i hn
      cases h2
      have hn' : noneE ir = false := by simpa using hn
      have := sb_part (ok_E n g G ok h1).d
      unfold partO
      rw [hn']
      exact this
termination_by n => n
theorem ok_L : ∀ (n : Nat) {gt : Gt} {X : Cx} {Wx : WX} {ct : Ct} {es : List Expr} {xs : Exs}, GX W Wx X → GOk W X S F gt → CtOk ct X → cEs gt ct n es = some xs → PA X es (tDs W Wx fun ρ => evDs S reprD F xs ρ) ∧ (es.all fun e => !isStar e) = true
  | n, gt, X, Wx, ct, [], xs, g, G, ok, h => by
    have : xs = .nil := by cases n <;> simp [cEs] at h <;> exact h.symm
    subst this
    exact ⟨sb_nil, rfl⟩
  | 0, gt, X, Wx, ct, e :: es, xs, g, G, ok, h => by simp [cEs] at h
  | n + 1, gt, X, Wx, ct, e :: es, xs, g, G, ok, h => by
    simp only [cEs] at h
    split at h
    · cases h
    · rename_i hs
      obtain ⟨a', h1, h2⟩ := Option.bind_eq_some_iff.mp h
      obtain ⟨b', h3, rfl⟩ := Option.map_eq_some_iff.mp h2
      have hs' : isStar e = false := by simpa using hs
      obtain ⟨l1, l2⟩ := ok_L n g G ok h3
      exact ⟨sb_cons (isStar_ne hs') (ok_E n g G ok h1).d l1, by simp [hs', l2]⟩
termination_by n => n
theorem ok_D : ∀ (n : Nat) {gt : Gt} {X : Cx} {Wx : WX} {ct : Ct} {es : List Expr} {xs : Exs}, GX W Wx X → GOk W X S F gt → CtOk ct X → cDs gt ct n es = some xs → PA X es (tDs W Wx fun ρ => evDs S reprD F xs ρ)
  | n, gt, X, Wx, ct, [], xs, g, G, ok, h => by
    have : xs = .nil := by cases n <;> simp [cDs] at h <;> exact h.symm
    subst this
    exact sb_nil
  | 0, gt, X, Wx, ct, e :: es, xs, g, G, ok, h => by cases e <;> simp [cDs] at h
  | n + 1, gt, X, Wx, ct, e :: es, xs, g, G, ok, h => by
    by_cases hs : ∃ a q, e = .Starred a q
    · obtain ⟨a, q, rfl⟩ := hs
      simp only [cDs] at h
      obtain ⟨a', h1, h2⟩ := Option.bind_eq_some_iff.mp h
      obtain ⟨b', h3, rfl⟩ := Option.map_eq_some_iff.mp h2
      simp only [evDs]
      exact sb_star g (ok_E n g G ok h1).d (ok_D n g G ok h3)
    · have h' : ((cE gt ct n e).bind fun e' => (cDs gt ct n es).map fun r => Exs.cons false e' r) = some xs := by
        rw [← h]
        cases e <;> first | rfl | exact absurd ⟨_, _, rfl⟩ hs
      obtain ⟨a', h1, h2⟩ := Option.bind_eq_some_iff.mp h'
      obtain ⟨b', h3, rfl⟩ := Option.map_eq_some_iff.mp h2
      exact sb_cons (fun a q z => hs ⟨a, q, z⟩) (ok_E n g G ok h1).d (ok_D n g G ok h3)
termination_by n => n
theorem ok_Ps : ∀ (n : Nat) {gt : Gt} {X : Cx} {Wx : WX} {ct : Ct} {es : List Expr} {xs : Exs}, GX W Wx X → GOk W X S F gt → CtOk ct X → cPs gt ct n es = some xs → PA X es (tAs W Wx fun ρ => evAs S reprD F xs ρ)
  | n, gt, X, Wx, ct, [], xs, g, G, ok, h => by
    have : xs = .nil := by cases n <;> simp [cPs] at h <;> exact h.symm
    subst this
    exact sb_anil
  | 0, gt, X, Wx, ct, e :: es, xs, g, G, ok, h => by simp [cPs] at h
  | n + 1, gt, X, Wx, ct, e :: es, xs, g, G, ok, h => by
    simp only [cPs] at h
    split at h
    · cases h
    · rename_i hs
      obtain ⟨a', h1, h2⟩ := Option.bind_eq_some_iff.mp h
      obtain ⟨b', h3, rfl⟩ := Option.map_eq_some_iff.mp h2
      have hs' : isStar e = false := by simpa using hs
      have l1 := ok_Ps n g G ok h3
      have sd := ok_E n g G ok h1
      simp only [evAs]
      cases hv : varOf a' with
      | some i => exact sb_afz hs' sd.d l1
      | none => exact sb_atm hs' sd.pe l1
termination_by n => n
theorem ok_K : ∀ (n : Nat) {gt : Gt} {X : Cx} {Wx : WX} {ct : Ct} {keys : List (Option Expr)} {ks : List Key} {es : List Expr} {xs : Exs} {pos : Pos}, GX W Wx X → GOk W X S F gt → CtOk ct X → keys.length = es.length → keysOf keys = some ks → cEs gt ct n es = some xs → PD X pos keys es (tKv W Wx ks fun ρ => evDs S reprD F xs ρ)
  | n, gt, X, Wx, ct, keys, ks, [], xs, pos, g, G, ok, hl, hk, h => by
    have : xs = .nil := by cases n <;> simp [cEs] at h <;> exact h.symm
    subst this
    cases keys with
    | nil => simp [keysOf] at hk; subst hk; exact pd_nil
    | cons _ _ => simp at hl
  | 0, gt, X, Wx, ct, keys, ks, e :: es, xs, pos, g, G, ok, hl, hk, h => by simp [cEs] at h
  | n + 1, gt, X, Wx, ct, [], ks, e :: es, xs, pos, g, G, ok, hl, hk, h => by simp at hl
  | n + 1, gt, X, Wx, ct, k :: keys, ks, e :: es, xs, pos, g, G, ok, hl, hk, h => by
    simp only [cEs] at h
    split at h
    · cases h
    · obtain ⟨a', h1, h2⟩ := Option.bind_eq_some_iff.mp h
      obtain ⟨b', h3, rfl⟩ := Option.map_eq_some_iff.mp h2
      have hl' : keys.length = es.length := by simpa using hl
      have one : ∀ {k' : Key} {ks' : List Key}, keyEx k' k = true → keysOf keys = some ks' → PD X pos (k :: keys) (e :: es) (tKv W Wx (k' :: ks') fun ρ => evDs S reprD F (.cons false a' b') ρ) := fun hx hk' => pd_cons hx (ok_E n g G ok h1).d (ok_K n g G ok hl' hk' h3)
      unfold keysOf at hk
      split at hk
      · cases ‹_ :: _ = _›
      · rename_i z; cases z
        obtain ⟨ks', m1, rfl⟩ := Option.map_eq_some_iff.mp hk
        exact one (by simp [keyEx]) m1
      · rename_i z; cases z
        obtain ⟨ks', m1, rfl⟩ := Option.map_eq_some_iff.mp hk
        exact one (by simp [keyEx]) m1
      · cases hk
termination_by n => n
theorem ok_A : ∀ (n : Nat) {gt : Gt} {X : Cx} {Wx : WX} {ct : Ct} {o : List Bool} {es : List Expr} {xs : Exs}, GX W Wx X → GOk W X S F gt → CtOk ct X → cAs gt ct n o es = some xs → PA X es (tAs W Wx fun ρ => evAs S reprD F xs ρ) ∧ (es.all fun e => !isStar e) = true
  | n, gt, X, Wx, ct, o, [], xs, g, G, ok, h => by
    have : xs = .nil := by cases n <;> simp [cAs] at h <;> exact h.symm
    subst this
    exact ⟨sb_anil, rfl⟩
  | 0, gt, X, Wx, ct, o, e :: es, xs, g, G, ok, h => by simp [cAs] at h
  | n + 1, gt, X, Wx, ct, o, e :: es, xs, g, G, ok, h => by
    simp only [cAs] at h
    split at h
    · cases h
    · rename_i hs
      obtain ⟨a', h1, h2⟩ := Option.bind_eq_some_iff.mp h
      obtain ⟨b', h3, rfl⟩ := Option.map_eq_some_iff.mp h2
      have hs' : isStar e = false := by simpa using hs
      obtain ⟨l1, l2⟩ := ok_A n g G ok h3
      have sd := ok_E n g G ok h1
      refine ⟨?_, by simp [hs', l2]⟩
      simp only [evAs]
      cases hfz : (!o.headD false) with
      | true => exact sb_afz hs' sd.d l1
      | false =>
        simp only [Bool.false_eq_true, if_false]
        cases hv : varOf a' with
        | none => exact sb_atm hs' sd.pe l1
        | some i =>
          obtain ⟨x, q, rfl, k1, k2, k3, k4⟩ := sd.nv i hv
          exact sb_aio k1 k2 k3 k4 l1
termination_by n => n
theorem ok_I : ∀ (n : Nat) {gt : Gt} {X : Cx} {Wx : WX} {ct : Ct} {es : List Expr} {c : Cn}, GX W Wx X → GOk W X S F gt → CtOk ct X → cIfs gt ct n es = some c → PTs X es (tTe W Wx fun ρ => evC S reprD F c ρ)
  | n, gt, X, Wx, ct, [], c, g, G, ok, h => by
    have : c = .tt := by cases n <;> exact (Option.some.inj (show some Cn.tt = some c from h)).symm
    subst this
    exact ⟨fun pins s σ H Q I ⟨C, ρ, rel, q⟩ => pts_nil.run pins s σ H Q I (q H (Ext.refl _) rel)⟩
  | 0, gt, X, Wx, ct, [e], c, g, G, ok, h => by have h' : (none : Option Cn) = some c := h; cases h'
  | 0, gt, X, Wx, ct, e :: e2 :: es, c, g, G, ok, h => by have h' : (none : Option Cn) = some c := h; cases h'
  | n + 1, gt, X, Wx, ct, [e], c, g, G, ok, h => pts_one (ok_C n g G ok (show cC gt ct n e = some c from h)).1
  | n + 1, gt, X, Wx, ct, e :: e2 :: es, c, g, G, ok, h => by have h' : (none : Option Cn) = some c := h; cases h'
termination_by n => n
theorem ok_R : ∀ (n : Nat) {gt : Gt} {X : Cx} {Wx : WX} {ct : Ct} {es : List Expr} {I : It} {p q p2 q2 : Pos}, GX W Wx X → GOk W X S F gt → CtOk ct X → cR gt ct n es = some I → Gl X "list" → X.mg "list" = none → Gl X "range" → X.mg "range" = none →
    PE X (.Call (.Name "list" p) [.Call (.Name "range" p2) es [] q2] [] q) (tE W Wx fun ρ => evE S reprD F (.lrng I) ρ)
  | 0, gt, X, Wx, ct, es, I, p, q, p2, q2, g, G, ok, h, l1, l2, r1, r2 => by simp [cR] at h
  | n + 1, gt, X, Wx, ct, [], I, p, q, p2, q2, g, G, ok, h, l1, l2, r1, r2 => by simp [cR] at h
  | n + 1, gt, X, Wx, ct, [a], I, p, q, p2, q2, g, G, ok, h, l1, l2, r1, r2 => by
    simp only [cR] at h
    obtain ⟨a', h1, rfl⟩ := Option.map_eq_some_iff.mp h
    have sd := ok_E n g G ok h1
    exact sb_lrng1 g l1 l2 r1 r2 (isStar_ne sd.ns) sd.d
  | n + 1, gt, X, Wx, ct, [a, b], I, p, q, p2, q2, g, G, ok, h, l1, l2, r1, r2 => by
    simp only [cR] at h
    obtain ⟨a', h1, h2⟩ := Option.bind_eq_some_iff.mp h
    obtain ⟨b', h3, rfl⟩ := Option.map_eq_some_iff.mp h2
    have sd := ok_E n g G ok h1
    have sd2 := ok_E n g G ok h3
    exact sb_lrng2 g l1 l2 r1 r2 (isStar_ne sd.ns) sd2.ns sd.d sd2.d
  | n + 1, gt, X, Wx, ct, a :: b :: c :: r, I, p, q, p2, q2, g, G, ok, h, l1, l2, r1, r2 => by simp [cR] at h
termination_by n => n
theorem ok_T : ∀ (n : Nat) {gt : Gt} {X : Cx} {Wx : WX} {ct : Ct} {tg e : Expr} {I : It}, GX W Wx X → GOk W X S F gt → CtOk ct X → cIt gt ct n tg e = some I → PI X tg e (tIt W Wx X.K fun ρ => evIt S reprD F I ρ)
  | 0, gt, X, Wx, ct, tg, e, I, g, G, ok, h => by simp [cIt] at h
  | n + 1, gt, X, Wx, ct, tg, e, I, g, G, ok, h => by
    have seq : ∀ {I : It}, (cE gt ct n e).map It.seq = some I → PI X tg e (tIt W Wx X.K fun ρ => evIt S reprD F I ρ) := fun {I} h => by
      obtain ⟨a', h1, rfl⟩ := Option.map_eq_some_iff.mp h
      exact si_seq g (ok_E n g G ok h1).d
    unfold cIt at h
    split at h
    · rename_i x q args q2
      split at h
      · rename_i hc
        simp only [Bool.and_eq_true, beq_iff_eq] at hc
        obtain ⟨hb, rfl⟩ := hc
        obtain ⟨r1, r2, _⟩ := bl_ok G ok hb
        cases n with
        | zero => simp [cR] at h
        | succ m =>
          rcases args with _ | ⟨a, _ | ⟨b, _ | ⟨c, r⟩⟩⟩
          · simp [cR] at h
          · simp only [cR] at h
            obtain ⟨a', h1, rfl⟩ := Option.map_eq_some_iff.mp h
            have sd := ok_E m g G ok h1
            exact si_rng1 r1 r2 sd.ns sd.d
          · simp only [cR] at h
            obtain ⟨a', h1, h2⟩ := Option.bind_eq_some_iff.mp h
            obtain ⟨b', h3, rfl⟩ := Option.map_eq_some_iff.mp h2
            have sd := ok_E m g G ok h1
            have sd2 := ok_E m g G ok h3
            exact si_rng2 r1 r2 sd.ns sd2.ns sd.d sd2.d
          · simp [cR] at h
      · split at h
        · rename_i hc
          simp only [Bool.and_eq_true, beq_iff_eq] at hc
          obtain ⟨hb, rfl⟩ := hc
          obtain ⟨r1, r2, _⟩ := bl_ok G ok hb
          split at h
          · split at h
            · cases h
            · obtain ⟨a', h1, rfl⟩ := Option.map_eq_some_iff.mp h
              have sd := ok_E n g G ok h1
              exact si_enum g r1 r2 sd.ns sd.d
          · cases h
        · split at h
          · rename_i hc
            simp only [Bool.and_eq_true, beq_iff_eq] at hc
            obtain ⟨hb, rfl⟩ := hc
            obtain ⟨r1, r2, _⟩ := bl_ok G ok hb
            split at h
            · split at h
              · cases h
              · obtain ⟨a', h1, h2⟩ := Option.bind_eq_some_iff.mp h
                obtain ⟨b', h3, rfl⟩ := Option.map_eq_some_iff.mp h2
                have sd := ok_E n g G ok h1
                have sd2 := ok_E n g G ok h3
                exact si_zip g r1 r2 sd.ns sd2.ns sd.d sd2.d
            · cases h
          · exact seq h
    · exact seq h
termination_by n => n
end
end
end Eg
set_option Elab.async false
set_option linter.all false
set_option maxRecDepth 100000
set_option maxHeartbeats 8000000
/-! the engine: statements of the text, compiled -/
namespace Eg
open PySem PySem.Spec PyProof.Rows L2

def noComp : Expr → Bool
  | .ListComp _ _ _ _ => false
  | .SetComp _ _ _ _ => false
  | .DictComp _ _ _ _ _ => false
  | _ => true
def noTup : Expr → Bool
  | .Tuple _ _ _ => false
  | _ => true
/-- a comprehension is stored on its own line -/
def swapB (ct : Ct) (x : Str) (q p : Pos) (scope : Scope) : Bool := (match ct.vs.lookup x with
  | some .local => true
  | _ => false) && (q.line == p.line) && !(scope.names.any fun (n, k) => n == x && (k == .local || k == .cell))
/-- a name is stored -/
def setE (gt : Gt) (ct : Ct) (n : Nat) (x : Str) (q : Pos) (e : Expr) : Option Ex := match e with
  | .ListComp _ [⟨_, _, _, 0⟩] scope p => if swapB ct x q p scope then cE gt ct n e else none
  | e => if noComp e then cE gt ct n e else none
/-- fields as targets -/
def ftOf (gt : Gt) : List Expr → Option (Str × List Nat)
  | [.Attribute (.Name x _) f _] => (ixOf f gt.nm).map fun i => (x, [i])
  | .Attribute (.Name x _) f _ :: e :: r => match ftOf gt (e :: r), ixOf f gt.nm with
    | some (y, ns), some i => if y = x then some (x, i :: ns) else none
    | _, _ => none
  | _ => none
def orBadS (o : Option St) : Option St := some (o.getD .bad)
def isL (ct : Ct) (x : Str) : Bool := match ct.vs.lookup x with
  | some .local => true
  | _ => false
/-- a, b = x, y -/
def cPar (gt : Gt) (ct : Ct) (n : Nat) : List Str → List Expr → List Expr → Option St
  | names, [.Name x _, .Name y _], [a, b] => if names = [x, y] && isL ct x && isL ct y then (ixOf x ct.N).bind fun i => (ixOf y ct.N).bind fun j => if i ≠ j then (cPs gt ct n [a, b]).map fun xs => .par [i, j] xs else none else none
  | names, [.Name x _, .Name y _, .Name z _], [a, b, c] => if names = [x, y, z] && isL ct x && isL ct y && isL ct z then (ixOf x ct.N).bind fun i => (ixOf y ct.N).bind fun j => (ixOf z ct.N).bind fun l => if i ≠ j ∧ i ≠ l ∧ j ≠ l then (cPs gt ct n [a, b, c]).map fun xs => .par [i, j, l] xs else none else none
  | _, _, _ => none
mutual
def cS (gt : Gt) (ct : Ct) : Nat → Stmt → Option St
  | n + 1, st => orBadS (match st with
    | .Assign [.Name x q] e _ => if isLoc ct.st x && plainNm x then (ixOf x ct.N).bind fun i => (setE gt ct n x q e).map fun e' => .asg i e' else none
    | .Assign [.Tuple es k q] e _ => match ftOf gt es with
      | some (x, ns) => if noTup e && noComp e then (varE ct x).bind fun i => (cE gt ct n e).map fun e' => .asgTF i ns e' else none
      | none => match e with
        | .Tuple vs k2 q2 => match swO ct es vs with
          | some none => (cTg ct n (.Tuple es k q)).bind fun t => (cE gt ct n (.Tuple vs k2 q2)).map fun e' => .asgT t e'
          | some (some names) => cPar gt ct n names es vs
          | none => none
        | e => if noTup e && noComp e then (cTg ct n (.Tuple es k q)).bind fun t => (cE gt ct n e).map fun e' => .asgT t e' else none
    | .Assign [.Attribute (.Name x _) f _] e _ => if noComp e then (varE ct x).bind fun i => (ixOf f gt.nm).bind fun j => (cE gt ct n e).map fun e' => .asgF i j e' else none
    | .Raise (some (.Call (.Name x _) [a] [] _)) none _ => if plainNm x && !isStar a then match glOf gt ct x with
      | some (.exc c) => (cE gt ct n a).map fun a' => .raise c a'
      | _ => none
      else none
    | .Assign [.Subscript (.Name x _) ix _] e _ => if noSlice ix && noComp e then (varE ct x).bind fun i => (cE gt ct n ix).bind fun i' => (cE gt ct n e).map fun e' => .asgI i i' e' else none
    | .Expr (.Call (.Attribute (.Name x _) m apos) [e] [] cpos) _ => if apos.endLine == cpos.line && !isStar e then
        (if m = "append" then (varE ct x).bind fun i => (cE gt ct n e).map fun e' => .app i e'
        else if m = "extend" then (varE ct x).bind fun i => (cE gt ct n e).map fun e' => .ext i e' else none) else none
    | .Expr (.Constant (.str _) _ _) _ => some .pass
    | .Return none _ => some (.ret (.cst .non))
    | .Return (some e) _ => (cE gt ct n e).map .ret
    | .If c a b _ => (cC gt ct n c).bind fun c' => (cSs gt ct n a).bind fun a' => (cSs gt ct n b).map fun b' => .ifs c' a' b'
    | .For tg it body [] _ => if noSetE it then (cIt gt ct n tg it).bind fun it' => (cTg ct n tg).bind fun t => (cSs gt ct n body).map fun b => .for_ t it' b else none
    | .While c body [] _ => (cC gt ct n c).bind fun c' => (cSs gt ct n body).map fun b => .while_ c' b
    | .Pass _ => some .pass
    | .Break _ => some .brk
    | .Continue _ => some .cnt
    | _ => none)
  | 0, _ => none
def cSs (gt : Gt) (ct : Ct) : Nat → List Stmt → Option Sts
  | _, [] => some .nil
  | n + 1, s :: r => (cS gt ct n s).bind fun s' => (cSs gt ct n r).map fun r' => .cons s' r'
  | _, _ => none
end
section
variable {W : Wd} {S : Stat} {F : Nat → Env → OutF} {gt : Gt} {X : Cx} {Wx : WX} {ct : Ct} {io kp : List Nat} {pos p q : Pos}
theorem nocomp_sw {e : Expr} {t : Option Expr} {l : Nat} (h : noComp e = true) : swapsWith e t l X.env = pure false := by
  cases e <;> first | rfl | cases h
theorem ss_retV {x : Str} {i : Nat} (hN : X.N[i]? = some x) (hv : Vis X.env.scope x) (hd : (x == ("__debug__" : Str)) = false) (hcd : (x == ("__classdict__" : Str)) = false) :
    PS X (.Return (some (.Name x p)) pos) (tS W Wx io fun ρ => if io.contains i then SO.of (evE S reprD F (.var i) ρ) fun t ρ => .ret t ρ else match ρ[i]? with
      | some (.own t) => .ret t (ρ.set i .unb)
      | some (.val d) => .ret (.fr d) ρ
      | _ => .bad) := by
  cases hio : io.contains i with
  | true => exact ss_ret (sb_var hN hv hd hcd)
  | false =>
    refine (ps_ret (pe_var (pos := p) hN hv hd hcd)).mono fun D σ H ⟨C, ρ, hf, rel, q⟩ => ?_
    simp only [Bool.false_eq_true, if_false] at q
    split at q
    · rename_i t e
      obtain ⟨fp, r⟩ := rel
      obtain ⟨o, f1, f2, f3, h1, h2, h3, h4⟩ := r.slots.at e
      cases h3 with
      | own ow =>
        rename_i v
        subst h2
        refine ⟨v, h1, q v σ H (Ext.refl _) ⟨f1 ++ ([] ++ f3), f2, ow, ?_⟩⟩
        have sl := h4 H .unb (some v) [] (Ext.refl _) (fun _ _ => rfl) .unb
        rw [set_same h1] at sl
        have nd := r.nd
        simp only [List.append_nil] at nd
        refine ⟨sl, ?_, fun a m => r.own a ?_, r.frame, r.dom, r.fix, r.tabs⟩
        · obtain ⟨n1, n2, n3⟩ := List.nodup_append.mp nd
          obtain ⟨m1, m2, m3⟩ := List.nodup_append.mp n2
          simp only [List.nil_append]
          refine List.nodup_append.mpr ⟨List.nodup_append.mpr ⟨n1, m2, fun a m b m' => n3 a m b (by simp [m'])⟩, m1, fun a m b m' z => ?_⟩
          rcases List.mem_append.mp m with m | m
          · exact n3 a m b (by simp [m']) z
          · exact m3 b m' a m z.symm
        · simp at m ⊢
          rcases m with m | m | m <;> simp [m]
    · rename_i d e
      obtain ⟨v, h1, h2⟩ := rel.val e
      exact ⟨v, h1, q v σ H (Ext.refl _) (rel.relT h2)⟩
    · exact q.elim
theorem set_ok {n i : Nat} {x : Str} {e : Expr} {ir : Ex} (g : GX W Wx X) (G : GOk W X S F gt) (ok : CtOk ct X) (hi : X.N[i]? = some x) (hl : isLoc ct.st x = true) (h : setE gt ct n x q e = some ir) : PS X (.Assign [.Name x q] e pos) (tAsg (tE W Wx fun ρ => evE S reprD F ir ρ) (gName i)) := by
  obtain ⟨hx, hf⟩ := ok.st x hl
  unfold setE at h
  split at h
  · rename_i elt tg it ifs scope p
    split at h
    · rename_i hsw
      unfold swapB at hsw
      simp only [Bool.and_eq_true, Bool.not_eq_true'] at hsw
      obtain ⟨⟨s1, s2⟩, s3⟩ := hsw
      have hloc : X.env.scope.names.lookup x = some .local := by
        rw [ok.vs]
        split at s1
        · assumption
        · cases s1
      cases n with
      | zero => simp [cE] at h
      | succ n =>
        unfold cE at h
        replace h := orBad_ok h
        rcases h with h | ⟨rfl, _⟩
        case inr => exact ⟨fun pins s σ H D I ⟨C, ρ, rel, q⟩ => q.elim⟩
        simp only at h
        split at h
        · rename_i hc
          rw [Bool.and_eq_true] at hc
          obtain ⟨it', h1, h2⟩ := Option.bind_eq_some_iff.mp h
          obtain ⟨tg', h3, h4⟩ := Option.bind_eq_some_iff.mp h2
          obtain ⟨c', h5, h6⟩ := Option.bind_eq_some_iff.mp h4
          obtain ⟨e', h7, rfl⟩ := Option.map_eq_some_iff.mp h6
          have bo := blkC_ok ok hc.2
          refine (ps_setLc g.calm g.nd hi hloc ?_ (ok_T n g G ok h1) bo (fun s H C cl fp => pg_tg (io := []) (g.blk) (blk_ok ok bo.kind) h3) (fun s H C cl fp => ok_I n g.blk G.blk (blk_ok ok bo.kind) h5) (fun s H C cl fp => (ok_E n g.blk G.blk (blk_ok ok bo.kind) h7).d) (folded_ok hc.1)).mono fun D σ H q => ?_
          · exact sw_true ok.kd hloc s2 s3
          · exact lc_read q
        · cases h
    · cases h
  · split at h
    · rename_i hc
      exact ps_set g.nd hi hx (ok_E n g G ok h).pe (nocomp_sw hc) hf
    · cases h
theorem nocomp_sole {t e : Expr} {l : Nat} (h : noComp e = true) : swapsWithSole [t] e l X.env = pure false := nocomp_sw h
theorem notup_sw {ts : List Expr} {e : Expr} (h : noTup e = true) : swappedStores ts e X.env = pure none := by
  cases e <;> first | cases h | skip
  all_goals (rcases ts with _ | ⟨t, _ | ⟨t2, r⟩⟩ <;> first | rfl | (cases t <;> rfl))
theorem orBadS_ok {o : Option St} {s : St} (h : orBadS o = some s) : o = some s ∨ s = .bad := by
  unfold orBadS at h
  cases o with
  | none => cases h; exact .inr rfl
  | some x => cases h; exact .inl rfl
theorem ss_bad {st : Stmt} : PS X st (tS W Wx io fun _ => .bad) := ⟨fun pins s σ H D I ⟨C, ρ, hf, rel, q⟩ => q.elim⟩
theorem ftOf_ok : ∀ {es : List Expr} {x : Str} {ns : List Nat}, ftOf gt es = some (x, ns) → FTs (nmOf gt) x es ns
  | [], _, _, h => by simp [ftOf] at h
  | [e], x, ns, h => by
    unfold ftOf at h
    split at h
    · rename_i y p f q z
      cases z
      obtain ⟨i, h1, h2⟩ := Option.map_eq_some_iff.mp h
      cases h2
      have hn : nmOf gt i = f := by unfold nmOf; rw [ixOf_get h1]; rfl
      rw [← hn]
      exact .cons .nil
    · rename_i z; cases z
    · cases h
  | e :: e2 :: r, x, ns, h => by
    unfold ftOf at h
    split at h
    · rename_i z; cases z
    · rename_i y p f q e' r' z
      cases z
      split at h
      · rename_i y' ns' i h1 h2
        split at h
        · rename_i hy
          cases h
          subst hy
          have hn : nmOf gt i = f := by unfold nmOf; rw [ixOf_get h2]; rfl
          rw [← hn]
          exact .cons (ftOf_ok h1)
        · cases h
      · cases h
    · cases h
theorem isL_ok {x : Str} (ok : CtOk ct X) (h : isL ct x = true) : X.env.scope.names.lookup x = some .local := by
  rw [ok.vs]
  unfold isL at h
  split at h
  · assumption
  · cases h
theorem par_ok {n N : Nat} {names : List Str} {es vs : List Expr} {ir : St} {k k2 : Nat} {p q q2 : Pos} (g : GX W Wx X) (G : GOk W X S F gt) (ok : CtOk ct X) (hsw : swO ct es vs = some (some names)) (h : cPar gt ct n names es vs = some ir) :
    PS X (.Assign [.Tuple es k q] (.Tuple vs k2 q2) p) (tS W Wx io fun ρ => evS S reprD F N io kp ir ρ) := by
  have hw := swO_ok (k := k) (k2 := k2) (q := q) (q2 := q2) ok hsw
  unfold cPar at h
  split at h
  · split at h
    · rename_i hc
      simp only [Bool.and_eq_true, decide_eq_true_eq] at hc
      obtain ⟨⟨rfl, l1⟩, l2⟩ := hc
      obtain ⟨i, h1, h2⟩ := Option.bind_eq_some_iff.mp h
      obtain ⟨j, h3, h4⟩ := Option.bind_eq_some_iff.mp h2
      split at h4
      · rename_i hij
        obtain ⟨xs, h5, rfl⟩ := Option.map_eq_some_iff.mp h4
        exact ss_par2 g (by rw [ok.N]; exact ixOf_get h1) (by rw [ok.N]; exact ixOf_get h3) hij (isL_ok ok l1) (isL_ok ok l2) (ok_Ps n g G ok h5) hw
      · cases h4
    · cases h
  · split at h
    · rename_i hc
      simp only [Bool.and_eq_true, decide_eq_true_eq] at hc
      obtain ⟨⟨⟨rfl, l1⟩, l2⟩, l3⟩ := hc
      obtain ⟨i, h1, h2⟩ := Option.bind_eq_some_iff.mp h
      obtain ⟨j, h3, h4⟩ := Option.bind_eq_some_iff.mp h2
      obtain ⟨l, h5, h6⟩ := Option.bind_eq_some_iff.mp h4
      split at h6
      · rename_i hij
        obtain ⟨xs, h7, rfl⟩ := Option.map_eq_some_iff.mp h6
        exact ss_par3 g (by rw [ok.N]; exact ixOf_get h1) (by rw [ok.N]; exact ixOf_get h3) (by rw [ok.N]; exact ixOf_get h5) hij.1 hij.2.1 hij.2.2 (isL_ok ok l1) (isL_ok ok l2) (isL_ok ok l3) (ok_Ps n g G ok h7) hw
      · cases h6
    · cases h
  · cases h
mutual
theorem ok_S : ∀ (n : Nat) {X : Cx} {Wx : WX} {ct : Ct} {st : Stmt} {ir : St} {N : Nat} {io kp : List Nat}, PassesOwn (model X.prog X.w) X.A X.env X.xe → GX W Wx X → GOk W X S F gt → CtOk ct X → cS gt ct n st = some ir → PS X st (tS W Wx io fun ρ => evS S reprD F N io kp ir ρ)
  | 0, X, Wx, ct, st, ir, N, io, kp, hp, g, G, ok, h => by simp [cS] at h
  | n + 1, X, Wx, ct, st, ir, N, io, kp, hp, g, G, ok, h => by
    unfold cS at h
    replace h := orBadS_ok h
    rcases h with h | rfl
    case inr => exact ss_bad
    split at h
    · rename_i x q e p
      split at h
      · rename_i hc
        rw [Bool.and_eq_true] at hc
        obtain ⟨i, h1, h2⟩ := Option.bind_eq_some_iff.mp h
        obtain ⟨e', h3, rfl⟩ := Option.map_eq_some_iff.mp h2
        exact ss_set (set_ok g G ok (by rw [ok.N]; exact ixOf_get h1) hc.1 h3)
      · cases h
    · split at h
      · rename_i x ns hft
        split at h
        · rename_i hc
          rw [Bool.and_eq_true] at hc
          obtain ⟨i, h1, h2⟩ := Option.bind_eq_some_iff.mp h
          obtain ⟨e', h3, rfl⟩ := Option.map_eq_some_iff.mp h2
          obtain ⟨k1, k2, k3, k4⟩ := var_ok ok h1
          exact ss_asgTF g G.fld k1 k2 k3 k4 (ftOf_ok hft) (ok_E n g G ok h3).d (nocomp_sole hc.2) (notup_sw hc.1)
        · cases h
      · split at h
        · split at h
          · rename_i hsw
            obtain ⟨t, h1, h2⟩ := Option.bind_eq_some_iff.mp h
            obtain ⟨e', h3, rfl⟩ := Option.map_eq_some_iff.mp h2
            exact ss_asgT (ok_E n g G ok h3).d (pg_tg g ok h1) (nocomp_sole rfl) (swO_ok ok hsw) rfl
          · rename_i names hsw
            exact par_ok g G ok hsw h
          · cases h
        · split at h
          · rename_i hc
            rw [Bool.and_eq_true] at hc
            obtain ⟨t, h1, h2⟩ := Option.bind_eq_some_iff.mp h
            obtain ⟨e', h3, rfl⟩ := Option.map_eq_some_iff.mp h2
            exact ss_asgT (ok_E n g G ok h3).d (pg_tg g ok h1) (nocomp_sole hc.2) (notup_sw hc.1) rfl
          · cases h
    · rename_i x p1 f q1 e1 p2
      split at h
      · rename_i hc
        obtain ⟨i, h1, h2⟩ := Option.bind_eq_some_iff.mp h
        obtain ⟨j, h3, h4⟩ := Option.bind_eq_some_iff.mp h2
        obtain ⟨e', h5, rfl⟩ := Option.map_eq_some_iff.mp h4
        obtain ⟨k1, k2, k3, k4⟩ := var_ok ok h1
        have hn : nmOf gt j = f := by unfold nmOf; rw [ixOf_get h3]; rfl
        have := ss_asgF (nm := nmOf gt) (n := j) (p := p1) (q := q1) (pos := p2) (io := io) g G.fld k1 k2 k3 k4 (ok_E n g G ok h5).d (nocomp_sole hc)
        rw [hn] at this
        exact this
      · cases h
    · rename_i x p1 a p2 p3
      split at h
      · rename_i hc
        simp only [Bool.and_eq_true, Bool.not_eq_true'] at hc
        split at h
        · rename_i c hg
          obtain ⟨a', h1, rfl⟩ := Option.map_eq_some_iff.mp h
          obtain ⟨g1, g2⟩ := gl_ok ok hg
          obtain ⟨k1, k2⟩ := G.exc x c g2
          exact ss_raise g k2 G.sup G.room g1 k1 (plain_db hc.1) hc.2 (ok_E n g G ok h1).d
        · cases h
      · cases h
    · rename_i x1 qa ix qb e1 qc
      split at h
      · rename_i hc
        rw [Bool.and_eq_true] at hc
        obtain ⟨i, h1, h2⟩ := Option.bind_eq_some_iff.mp h
        obtain ⟨i', h3, h4⟩ := Option.bind_eq_some_iff.mp h2
        obtain ⟨e', h5, rfl⟩ := Option.map_eq_some_iff.mp h4
        obtain ⟨k1, k2, k3, k4⟩ := var_ok ok h1
        exact ss_asgI k1 k2 k3 k4 (ok_E n g G ok h5).d (ok_E n g G ok h3).d (fun v => by
          have hs := hc.1
          cases ix <;> first | rfl | cases hs) (nocomp_sole hc.2) (by cases e1 <;> rfl)
      · cases h
    · split at h
      · rename_i hc
        simp only [Bool.and_eq_true, Bool.not_eq_true'] at hc
        split at h
        · rename_i hm
          subst hm
          obtain ⟨i, h1, h2⟩ := Option.bind_eq_some_iff.mp h
          obtain ⟨e', h3, rfl⟩ := Option.map_eq_some_iff.mp h2
          obtain ⟨k1, k2, k3, k4⟩ := var_ok ok h1
          exact ss_app k1 k2 k3 k4 (ok_E n g G ok h3).d hc.2 hc.1 rfl (by rw [plain_star (isStar_ne hc.2)]; rfl)
        · split at h
          · rename_i hm
            subst hm
            obtain ⟨i, h1, h2⟩ := Option.bind_eq_some_iff.mp h
            obtain ⟨e', h3, rfl⟩ := Option.map_eq_some_iff.mp h2
            obtain ⟨k1, k2, k3, k4⟩ := var_ok ok h1
            exact ss_ext k1 k2 k3 k4 (ok_E n g G ok h3).pe hc.2 hc.1 rfl (by rw [plain_star (isStar_ne hc.2)]; rfl)
          · cases h
      · cases h
    · cases h
      exact ps_doc.mono fun D σ H ⟨C, ρ, hf, rel, q⟩ => q σ H (Ext.refl _) rel
    · cases h
      exact ss_retN
    · rename_i e p
      obtain ⟨e', h1, rfl⟩ := Option.map_eq_some_iff.mp h
      have sd := ok_E n g G ok h1
      cases hv : varOf e' with
      | some i =>
        obtain ⟨x, q, rfl, k1, k2, k3, k4⟩ := sd.nv i hv
        cases e' <;> simp [varOf] at hv
        subst hv
        exact ss_retV k1 k2 k3 k4
      | none =>
        have := ss_ret (io := io) (pos := p) sd.pe
        cases e' <;> first | exact this | (simp [varOf] at hv; done)
    · obtain ⟨c', h1, h2⟩ := Option.bind_eq_some_iff.mp h
      obtain ⟨a', h3, h4⟩ := Option.bind_eq_some_iff.mp h2
      obtain ⟨b', h5, rfl⟩ := Option.map_eq_some_iff.mp h4
      exact ss_if (ok_C n g G ok h1).1 (ok_Ss n hp g G ok h3) (ok_Ss n hp g G ok h5)
    · split at h
      · rename_i hc
        obtain ⟨it', h1, h2⟩ := Option.bind_eq_some_iff.mp h
        obtain ⟨t, h3, h4⟩ := Option.bind_eq_some_iff.mp h2
        obtain ⟨b', h5, rfl⟩ := Option.map_eq_some_iff.mp h4
        exact ss_for hp g (ok_T n g G ok h1) (pg_tg g ok h3) (ok_Ss n hp g G ok h5) (folded_ok hc)
      · cases h
    · obtain ⟨c', h1, h2⟩ := Option.bind_eq_some_iff.mp h
      obtain ⟨b', h5, rfl⟩ := Option.map_eq_some_iff.mp h2
      exact ss_while hp (ok_C n g G ok h1).1 (ok_Ss n hp g G ok h5)
    · cases h; exact ss_pass
    · cases h; exact ss_brk
    · cases h; exact ss_cnt
    · cases h
termination_by n => n
theorem ok_Ss : ∀ (n : Nat) {X : Cx} {Wx : WX} {ct : Ct} {sts : List Stmt} {ir : Sts} {N : Nat} {io kp : List Nat}, PassesOwn (model X.prog X.w) X.A X.env X.xe → GX W Wx X → GOk W X S F gt → CtOk ct X → cSs gt ct n sts = some ir → PSs X sts (tS W Wx io fun ρ => evSs S reprD F N io kp ir ρ)
  | n, X, Wx, ct, [], ir, N, io, kp, hp, g, G, ok, h => by
    have : ir = .nil := by cases n <;> simp [cSs] at h <;> exact h.symm
    subst this
    exact ss_nil
  | 0, X, Wx, ct, s :: r, ir, N, io, kp, hp, g, G, ok, h => by simp [cSs] at h
  | n + 1, X, Wx, ct, s :: r, ir, N, io, kp, hp, g, G, ok, h => by
    simp only [cSs] at h
    obtain ⟨s', h1, h2⟩ := Option.bind_eq_some_iff.mp h
    obtain ⟨r', h3, rfl⟩ := Option.map_eq_some_iff.mp h2
    exact ss_cons (ok_S n hp g G ok h1) (ok_Ss n hp g G ok h3)
termination_by n => n
end
end
end Eg
set_option Elab.async false
set_option linter.all false
set_option maxRecDepth 100000
set_option maxHeartbeats 4000000
/-! the engine: a law's end, with tables of code objects -/
namespace Eg
open PySem PySem.Spec PyProof.Rows L2 LamX
/-- the tables, untouched so far -/
structure TabsAt (K : PySem.W.Frag) (h : Heap) (cs : List (Addr × Addr)) : Prop where
  emp : ∀ p ∈ cs, h.get? p.2 = some { cls := .none, data := .fields #[] }
  out : ∀ p ∈ cs, K.lookup p.2 = none
  cod : ∀ p ∈ cs, PySem.W.CodeHd h p.1 p.2
section
variable {W : Wd} {P : Program} {w : World} {mg mb : Str → Option Value} {k : Nat} {fa a : Addr} {fd : FuncData} {x : Str} {fl : Env → OutF} {s1 : Shared} {vs : List Value} {ns : List Int} {cs : List (Addr × Addr)}
/-- what is tracked at the start: the script, the tables -/
structure Start (W : Wd) (P : Program) (w : World) (H : Hp) (h : Heap) (a : Addr) (cs : List (Addr × Addr)) (ns : List Int) : Prop where
  tab : ∀ p ∈ cs, H p.2 = some (.tbl #[])
  sq : SqF W.K H a (ns.map V.int)
  hok : HOk P w H h
  one : ∀ b u, H b = some u → (b = a ∧ W.K.lookup a = none ∧ ∃ o v, u = .frz o v) ∨ (∃ p ∈ cs, p.2 = b) ∧ u = .tbl #[]
theorem start_law (T : TabsAt W.K s1.heap cs) (hTW : ∀ q ∈ W.T, ∃ p ∈ cs, p.2 = q.1) (KX : W.K.In s1.heap) (hns : s1.heap.Ns mainGlobals mg) (hb : s1.heap.Ns builtinsNs mb) (hbb : ∀ x : Str, x ≠ "__name__" → mb x = bootBuiltins x) (hlim : s1.heap.NoLimit) (hg : s1.gens = #[])
    (hbm : ∃ (bm : Addr) (ob : Obj), mg "__builtins__" = some (.ref bm) ∧ bm ≠ builtinsNs ∧ s1.heap.get? bm = some ob ∧ ob.cls = .type "module" ∧ ob.dict = some builtinsNs ∧ ob.data = .plain)
    (hr : Room k callerA) (F : ∀ base : Heap, W.K.In base → base.Ns mainGlobals mg → (∀ p ∈ cs, TabB base mg p.1 p.2) → FnE W P w mg base k fa fd [x] fl) (hbind : ∀ (s : Shared) (u : Value), BindsTo s fd ⟨[u], []⟩ [(x, u)]) (hv : ∃ fin, fl [.val (.lst (ns.map .int))] = .ret (.fr (.bl true)) fin)
    (hobj : s1.heap.get? a = some { cls := .type "list", data := .seq vs.toArray }) {H : Hp} (S : Start W P w H s1.heap a cs ns) :
    codeAny (model P w) callerA (.call (.ref fa) ⟨[.ref a], []⟩) (fun r s' => r = .ok (.ret (.bool true)) ∧ OldK s1.heap s'.heap ∧ s'.os = s1.os ∧ AllBare s'.gens) s1 := by
  have free : ∀ {b : Addr} {o : Obj}, s1.heap.get? b = some o → (∀ us n, o.data ≠ .seq us n) → o.data ≠ .fields #[] → H b = none := fun {b o} e n1 n2 => by
    cases q : H b with
    | none => rfl
    | some u =>
      rcases S.one b u q with ⟨rfl, _, _⟩ | ⟨⟨p, hp, rfl⟩, _⟩
      · rw [hobj] at e; cases e; exact absurd rfl (n1 _ _)
      · rw [T.emp p hp] at e; cases e; exact absurd rfl n2
  have freeD : ∀ {b : Addr} {o : Obj} {es : Array DictEntry} {ep : Nat}, s1.heap.get? b = some o → o.data = .dict es ep → H b = none := fun {b o es ep} e d => free e (fun us n z => by rw [d] at z; cases z) (fun z => by rw [d] at z; cases z)
  have up : ∀ {b : Addr} {m : Str → Option Value}, s1.heap.Ns b m → (hidT s1.heap H).Ns b m := fun {b m} q => by
    obtain ⟨o, es, ep, e, d, r⟩ := q
    exact ⟨o, es, ep, hidT_get e (freeD e d), d, r⟩
  have kin : W.K.In (hidT s1.heap H) := fun b o e => hidT_get (KX b o e) <| by
    cases q : H b with
    | none => rfl
    | some u =>
      rcases S.one b u q with ⟨rfl, k0, _⟩ | ⟨⟨p, hp, rfl⟩, _⟩
      · rw [k0] at e; cases e
      · rw [T.out p hp] at e; cases e
  obtain ⟨mc, c1, c2⟩ := hlim
  have mod : Mod W.K mg (hidT s1.heap H) := ⟨kin, up hns, ⟨mb, up hb, hbb⟩, mc, up c1, c2⟩
  have tb : ∀ p ∈ cs, TabB (hidT s1.heap H) mg p.1 p.2 := fun p hp => by
    have ep := T.emp p hp
    have nG : p.2 ≠ mainGlobals := fun z => by
      obtain ⟨o, es, ep', e, d, _⟩ := hns
      rw [← z, ep] at e; cases e; cases d
    obtain ⟨o, us, file, tf, flags, tg, inF, text, tt, e1, r1, r2, r3, rest⟩ := T.cod p hp
    obtain ⟨bm, ob, b1, b2, b3, b4, b5, b6⟩ := hbm
    refine ⟨⟨o, us, file, tf, flags, tg, inF, text, tt, hidT_get e1 (free e1 (fun _ _ z => by rw [r2] at z; cases z) fun z => by rw [r2] at z; cases z; simp at r3), r1, r2, r3, rest⟩, ⟨bm, ob, b1, b2, fun z => ?_, fun z => ?_, hidT_get b3 (free b3 (fun _ _ z => by rw [b6] at z; cases z) fun z => by rw [b6] at z; cases z), b4, b5, b6⟩, nG.symm⟩
    · obtain ⟨o', es, ep', e, d, _⟩ := hns
      rw [z, e] at b3; cases b3; rw [d] at b6; cases b6
    · rw [z, ep] at b3; cases b3; cases b6
  have env0 : Env0 P w W.K mg (hidT s1.heap H) callerA [] s1 H := ⟨rfl, mod, fun _ _ e => of_hidT e, Nat.le_of_eq (hidT_size _ _), trivial, fun _ m => absurd (show _ ∈ ([] : List Addr) from m) (by simp), S.hok, .of_eq hg⟩
  obtain ⟨fin, efl⟩ := hv
  have sl : SlRs W H [.val (.lst (ns.map .int))] ([V.ref a].map some) [] := .cons (.val (.lst S.sq (reps_ints ns))) .nil
  have tabs : LamX.Tabs W.T H := fun q hq => by
    obtain ⟨p, hp, e⟩ := hTW q hq
    exact TabS.nil (e ▸ S.tab p hp)
  have want : wF W [.ref a] H [] (fl [.val (.lst (ns.map .int))]) (fun v _ => v = .bl true) (fun _ _ _ => False) := by
    rw [efl]
    intro v H' ft ow _
    obtain ⟨rp, _⟩ := own_fr ow
    cases rp; rfl
  refine codeAny_mono ((F _ kin (up hns) tb).run callerA [] s1 H ⟨[.ref a], []⟩ [.ref a] [.ref a] _ [] _ _ hr rfl env0 (hbind s1 (.ref a)) (.cons rfl .nil) sl (by simp) tabs want) fun r s' h => ?_
  cases r with
  | error e =>
    obtain ⟨_, _, _, _, _, _, _, _, _, _, _, _, z⟩ := h
    exact z.elim
  | ok f =>
    cases f with
    | next => exact h.elim
    | brk => exact h.elim
    | cont => exact h.elim
    | ret u =>
      obtain ⟨v, H', eos, bare, un, hok', rv, ev⟩ := h
      have ev : v = .bl true := ev
      subst ev
      cases (show u = Value.bool true from rv)
      have way : ∀ b o, s1.heap.get? b = some o → (s'.heap.get? b = some o) ∨ ((∃ p ∈ cs, p.2 = b) ∧ o = { cls := .none, data := .fields #[] } ∧ ∃ more : Array Value, s'.heap.get? b = some { cls := .none, data := .fields more }) := fun b o e => by
        cases q : H b with
        | none => exact .inl (un.keep b o e q (fun z => absurd (show b ∈ ([] : List Addr) from z) (by simp)) (by simp))
        | some u =>
          rcases S.one b u q with ⟨rfl, _, ob, uu, rfl⟩ | ⟨⟨p, hp, rfl⟩, rfl⟩
          · have e1 := (S.hok _ _ q).1
            have e2 := (hok' _ _ (un.frzs _ ob uu q)).1
            rw [e] at e1; cases e1
            exact .inl e2
          · obtain ⟨more, z⟩ := un.tbls p.2 #[] q
            rw [T.emp p hp] at e; cases e
            exact .inr ⟨⟨p, hp, rfl⟩, rfl, _, hok' p.2 _ z⟩
      refine ⟨rfl, ⟨fun b o e => ?_, fun b o e => ?_⟩, eos, bare⟩
      · rcases way b o e with z | ⟨⟨p, hp, rfl⟩, rfl, more, hm⟩
        · exact .inl z
        · exact .inr (.inl ⟨((T.cod p hp).tab (T.emp p hp)).isCodeTable, rfl, #[], more, rfl, by rw [Array.empty_append]; exact hm⟩)
      · rcases way b o e with z | ⟨_, _, more, hm⟩
        · exact ⟨o, z⟩
        · exact ⟨_, hm⟩
/-- .. from the script as it comes -/
theorem start_of (T : TabsAt W.K s1.heap cs) (KX : W.K.In s1.heap) (hobj : s1.heap.get? a = some { cls := .type "list", data := .seq vs.toArray }) (hi : IntsAre vs ns) (hl : ns.length ≤ sizeLine) : ∃ H, Start W P w H s1.heap a cs ns := by
  have rv := vals_ints hi
  have len := hi.length
  have mem : ∀ p ∈ cs, p.2 ∈ cs.map (·.2) := fun p hp => List.mem_map.mpr ⟨p, hp, rfl⟩
  have emp : ∀ b ∈ cs.map (·.2), s1.heap.get? b = some { cls := .none, data := .fields #[] } := fun b hb => by
    obtain ⟨p, hp, rfl⟩ := List.mem_map.mp hb
    exact T.emp p hp
  have na : a ∉ cs.map (·.2) := fun z => by
    have := emp a z
    rw [hobj] at this
    have this := congrArg Obj.data (Option.some.inj this)
    cases this
  have back : ∀ b ∈ cs.map (·.2), ∃ p ∈ cs, p.2 = b := fun b hb => let ⟨p, hp, e⟩ := List.mem_map.mp hb; ⟨p, hp, e⟩
  cases hk : W.K.lookup a with
  | some o =>
    have e := KX a o hk
    rw [hobj] at e; cases e
    refine ⟨fun b => if b ∈ cs.map (·.2) then some (.tbl #[]) else none, fun p hp => if_pos (mem p hp), .inr ⟨_, vs.toArray, _, hk, rfl, rfl, rfl, by rw [List.size_toArray, len]; exact hl, by simpa using rv⟩, fun b u z => ?_, fun b u z => ?_⟩
    · by_cases hb : b ∈ cs.map (·.2)
      · simp only [hb, if_true] at z; cases z; exact emp b hb
      · simp only [hb, if_false] at z; cases z
    · by_cases hb : b ∈ cs.map (·.2)
      · simp only [hb, if_true] at z; cases z; exact .inr ⟨back b hb, rfl⟩
      · simp only [hb, if_false] at z; cases z
  | none =>
    refine ⟨fun b => if b = a then some (.frz { cls := .type "list", data := .seq vs.toArray } (.lst (ns.map V.int))) else if b ∈ cs.map (·.2) then some (.tbl #[]) else none, fun p hp => ?_, .inl ⟨{ cls := .type "list", data := .seq vs.toArray }, if_pos rfl⟩, fun b u z => ?_, fun b u z => ?_⟩
    · have : p.2 ≠ a := fun z => na (z ▸ mem p hp)
      simp only [this, if_false, mem p hp, if_true]
    · by_cases hb : b = a
      · subst hb
        simp only [if_true] at z; cases z
        exact ⟨hobj, by rw [List.length_map]; exact hl, vs, _, rv, hobj⟩
      · by_cases hb2 : b ∈ cs.map (·.2)
        · simp only [hb, if_false, hb2, if_true] at z; cases z; exact emp b hb2
        · simp only [hb, if_false, hb2] at z; cases z
    · by_cases hb : b = a
      · subst hb
        simp only [if_true] at z; cases z
        exact .inl ⟨rfl, hk, _, _, rfl⟩
      · by_cases hb2 : b ∈ cs.map (·.2)
        · simp only [hb, if_false, hb2, if_true] at z; cases z; exact .inr ⟨back b hb2, rfl⟩
        · simp only [hb, if_false, hb2] at z; cases z
end
section
variable {l : PySem.W.OpenLaw} {n k : Nat} {q : Program} {loose : List Str} {XP : (Str → Option Value) → Heap → Prop} {YP : World → Heap → Prop} {d : DefRec} {x : Str}
/-- the law walked, with tables -/
theorem walk_ofEt (hn : l.most = some n) (hn2 : n ≤ sizeLine) (hdf : d.params.defaults = []) (hr : Room k callerA)
    (F : ∀ (w : World) (mg : Str → Option Value) (fa : Addr) (h : Heap), YP w h → h.Ns mainGlobals mg → mg d.name = some (.ref fa) →
      ∃ (W : Wd) (fd : FuncData) (fl : Env → OutF) (cs : List (Addr × Addr)), W.K.In h ∧ TabsAt W.K h cs ∧ (∀ q ∈ W.T, ∃ p ∈ cs, p.2 = q.1) ∧ (∀ (s : Shared) (u : Value), BindsTo s fd ⟨[u], []⟩ [(x, u)]) ∧ (∀ ns : List Int, ns.length ≤ n → ∃ fin, fl [.val (.lst (ns.map .int))] = .ret (.fr (.bl true)) fin) ∧
        ∀ base : Heap, W.K.In base → base.Ns mainGlobals mg → (∀ p ∈ cs, TabB base mg p.1 p.2) → FnE W l.prog w mg base k fa fd [x] fl) :
    PySem.W.WalkO q loose XP YP l.row.toRowW d [] (fun f vs => PySem.call f vs) := by
  refine Att.attach_call hn hdf fun w s0 s1 mg mb fa o pm cd doc a vs ns G Y ho hd hcd hmg hobj hints hlen hg => ?_
  obtain ⟨W, fd, fl, cs, KX, T, hTW, hb, hv, hF⟩ := F w mg fa _ Y G.T.g hmg
  obtain ⟨H, S⟩ := start_of (P := l.prog) (w := w) T KX hobj hints (Nat.le_trans hlen hn2)
  exact start_law T hTW KX G.T.g G.T.b G.T.builtins G.T.nolimit hg G.T.bmain hr hF hb (hv ns hlen) hobj S
end
end Eg
set_option Elab.async false
set_option linter.all false
set_option maxRecDepth 100000
set_option maxHeartbeats 8000000
/-! the engine: what the head tells of the written part -/
namespace Eg
open PySem PySem.Spec PyProof.Rows L2
open He hiding SaysX obsX valX saysX_of AlX hookX

/-- what the names reach, the modules' table and the statics' table besides -/
def asX (g : Addr → Option Obj) : Nat → List Addr
  | 0 => [mainGlobals, sysModules, cStatics]
  | n + 1 => growD g (asX g n)
structure DefX where
  at_ : Str × Option Str
  name : Str
  qual : Str
  params : Arguments
  body : List Stmt
  scope : Scope
  clo : List Str := []
  prop : Bool := false
/-- a property's getter -/
def propGet (K : PySem.W.Frag) (p : Addr) : Addr := match PySem.W.recIn K p "property" with
  | some (.ref g :: _) => g
  | _ => 0
def adX (K : PySem.W.Frag) (d : DefX) : Addr := if d.prop then propGet K (fAd K d.at_) else fAd K d.at_
/-- a def's data -/
abbrev FnX : Type := Option (Str × Str × Arguments × FuncBody × Scope × Addr × List Str × Bool × Addr)
def fnX' (K : PySem.W.Frag) (d : DefX) : FnX := match K.lookup (adX K d) with
  | some ⟨_, _, .func fd, _⟩ => some (fd.name, fd.qualname, fd.params, fd.body, fd.scope, fd.globals, fd.closure.map (·.1), (match fd.defaults with
    | .none => true
    | _ => false), fd.builtins)
  | _ => none
def DefX.val (d : DefX) : FnX := some (d.name, d.qual, d.params, .stmts d.body, d.scope, mainGlobals, d.clo, true, builtinsNs)
def DefX.ok (K : PySem.W.Frag) (d : DefX) : Bool := PySem.W.keepIn K (.ref (adX K d)) && (match K.lookup (adX K d) with
  | some ⟨_, _, .func fd, _⟩ => PySem.W.codeIn K fd.code d.qual
  | _ => false)
abbrev AlX : Type := Bool × List FnX
def obsX (chk : PySem.W.Frag → Bool) (fn : List DefX) (K : PySem.W.Frag) : AlX := (chk K && fn.all fun d => d.ok K, fn.map fun d => fnX' K d)
def valX (fn : List DefX) : AlX := (true, fn.map DefX.val)
def SaysX (chk : PySem.W.Frag → Bool) (fn : List DefX) (K : PySem.W.Frag) : Prop := obsX chk fn K = valX fn
/-- the defs that make lambdas: their code objects, their tables -/
def csOf (tf : List Defn) (K : PySem.W.Frag) : List (Addr × Addr) := tf.map (cT K)
def obsXG (n : Nat) (chk : PySem.W.Frag → Bool) (fn : List DefX) (tf : List Defn) (g : Addr → Option Obj) : AlX × Bool := (obsX chk fn (frT g (asX g n)), tabsB g tf (frT g (asX g n)))
theorem tabsAt_of {n : Nat} {tf : List Defn} {h : Heap} (e : tabsB h.get? tf (frT h.get? (asX h.get? n)) = true) : TabsAt (frT h.get? (asX h.get? n)) h (csOf tf (frT h.get? (asX h.get? n))) := by
  have key : ∀ q ∈ csOf tf (frT h.get? (asX h.get? n)), PySem.W.codeHdIn (frT h.get? (asX h.get? n)) q.1 q.2 = true ∧ ∃ o, h.get? q.2 = some o ∧ emptyTab o = true := fun q hq => by
    obtain ⟨p, hp, rfl⟩ := List.mem_map.mp hq
    have h1 := List.all_eq_true.mp e p hp
    rw [Bool.and_eq_true] at h1
    refine ⟨h1.1, ?_⟩
    have h2 := h1.2
    cases ho : h.get? (cT (frT h.get? (asX h.get? n)) p).2 with
    | none => rw [ho] at h2; cases h2
    | some o => rw [ho] at h2; exact ⟨o, rfl, h2⟩
  refine ⟨fun q hq => ?_, fun q hq => ?_, fun q hq => PySem.W.codeHd_of_K frT_in (key q hq).1⟩
  · obtain ⟨_, o, ho, em⟩ := key q hq
    rw [ho, emptyTab_eq em]
  · obtain ⟨_, o, ho, em⟩ := key q hq
    exact frT_none ho em
theorem TabsAt.keeps {K : PySem.W.Frag} {h h' : Heap} {cs : List (Addr × Addr)} (T : TabsAt K h cs) (k : ∀ b o, h.get? b = some o → h'.get? b = some o) : TabsAt K h' cs :=
  ⟨fun p hp => k _ _ (T.emp p hp), T.out, fun p hp => by
    obtain ⟨o, us, file, tf, flags, tg, inF, text, tt, e1, rest⟩ := T.cod p hp
    exact ⟨o, us, file, tf, flags, tg, inF, text, tt, k _ _ e1, rest⟩⟩
def hookX (n : Nat) (chk : PySem.W.Frag → Bool) (fn : List DefX) (tf : List Defn) : PySem.W.Hook where
  α := AlX × Bool
  obs := fun s => obsXG n chk fn tf s.heap.get?
  val := fun _ => (valX fn, true)
  says := fun _ h => ∃ K : PySem.W.Frag, K.In h ∧ SaysX chk fn K ∧ TabsAt K h (csOf tf K)
  of := fun _ _ e => ⟨_, frT_in, congrArg (fun z : AlX × Bool => z.1) e, tabsAt_of (congrArg (fun z : AlX × Bool => z.2) e)⟩
  keeps := fun _ _ _ ⟨K, hK, c, T⟩ k => ⟨K, PySem.W.Frag.In.keeps hK k, c, T.keeps k⟩
theorem obsXG_eq {n : Nat} {chk : PySem.W.Frag → Bool} {fn : List DefX} {tf : List Defn} {g : Addr → Option Obj} {s : Shared} (h : ∀ a, g a = s.heap.get? a) : obsXG n chk fn tf g = (hookX n chk fn tf).obs s := by
  have e : g = s.heap.get? := funext h
  rw [e]; rfl
section
variable {chk : PySem.W.Frag → Bool} {fn : List DefX} {K : PySem.W.Frag}
theorem SaysX.all (c : SaysX chk fn K) : chk K = true := (ba (show (chk K && fn.all fun d => d.ok K) = true from congrArg (fun z : AlX => z.1) c)).1
/-- a def without a closure -/
theorem SaysX.def_ (c : SaysX chk fn K) {i : Nat} {d : DefX} (h : fn[i]? = some d) (hc : d.clo = []) :
    ∃ oc od osl kV doc pm an cdv ct, K.lookup (adX K d) = some ⟨oc, od, .func (PySem.W.fnOf d.name d.qual d.params d.body d.scope .none kV doc pm an cdv ct), osl⟩ ∧ PySem.W.codeIn K cdv d.qual = true ∧ PySem.W.keepIn K (.ref (adX K d)) = true := by
  have c2 := (ba (show (chk K && fn.all fun d => d.ok K) = true from congrArg (fun z : AlX => z.1) c)).2
  have e : fn.map (fun d => fnX' K d) = fn.map DefX.val := congrArg (fun z : AlX => z.2) c
  have e2 : (fn.map fun d => fnX' K d)[i]? = (fn.map DefX.val)[i]? := by rw [e]
  rw [List.getElem?_map, List.getElem?_map, h] at e2
  have e3 : fnX' K d = d.val := Option.some.inj e2
  obtain ⟨kp, c3⟩ := ba (show (PySem.W.keepIn K (.ref (adX K d)) && _) = true from List.all_eq_true.mp c2 d (List.mem_of_getElem? h))
  unfold fnX' at e3
  cases q : K.lookup (adX K d) with
  | none => rw [q] at c3; cases c3
  | some o =>
    obtain ⟨oc, od, dt, osl⟩ := o
    rw [q] at c3 e3
    cases dt with
    | func fd =>
      obtain ⟨n1, n2, n3, n4, n5, n6, n7, n8, n9, n10, n11, n12, n13, n14, n15⟩ := fd
      simp only [DefX.val, Option.some.injEq, Prod.mk.injEq] at e3
      obtain ⟨h1, h2, h3, h4, h5, h6, h7, h8, h9⟩ := e3
      have h8' : n8 = .none := by cases n8 <;> first | rfl | cases h8
      have h7' : n7 = [] := by rw [hc] at h7; simpa using h7
      subst h1 h2 h3 h4 h5 h6 h7' h8' h9
      exact ⟨oc, od, osl, n9, n10, n11, n12, n13, n14, rfl, c3, kp⟩
    | _ => cases c3
end
/-! ### classes -/
def eqV2 (a b : Option (Option Value)) : Bool := decide (a = b)
def clsEB (K : PySem.W.Frag) (C : Addr) : Bool := (PySem.W.clsIn K C).isSome && eqO (PySem.W.findIn K (.ref C) "__getattribute__") (some (some (.builtin "BaseException.__getattribute__"))) && eqO (PySem.W.findIn K (.ref C) "__getattr__") (some none) &&
  decide (PySem.W.subIn K (.ref C) (.type "BaseException") = some true) && eqO (PySem.W.findIn K (.ref C) "__class__") (some (some (.builtin "object.__class__"))) &&
  eqO (PySem.W.specialIn K (.builtin "object.__class__") "__get__") (some (some (.builtin "getset_descriptor.__get__"))) && decide (PySem.W.takesIn K (.builtin "object.__class__") = some true) && decide (PySem.W.mroIn K C (.type "object") = some true)
theorem clsEB_ok {K : PySem.W.Frag} {C : Addr} (h : clsEB K C = true) : ClsE K C := by
  unfold clsEB at h
  simp only [Bool.and_eq_true, decide_eq_true_eq] at h
  obtain ⟨⟨⟨⟨⟨⟨⟨h1, h2⟩, h3⟩, h4⟩, h5⟩, h6⟩, h7⟩, h8⟩ := h
  exact ⟨h1, eqO_ok h2, eqO_ok h3, h4, eqO_ok h5, eqO_ok h6, h7, h8⟩
def oexB (K : PySem.W.Frag) (C : Addr) : Bool := (match K.lookup C with
  | some ⟨.type t, _, .cls cd, sl⟩ => (match cd.mro, sl.toList with
    | .ref C' :: bm, [_, _, _, _, some (.builtin n), _] => decide (t = "type") && decide (C' = C) && decide (n = "ValueError.__new__") && !cd.hasDel && cd.hasDict && PySem.HandSPX.refsVE bm
    | _, _ => false)
  | _ => false) && eqO (PySem.W.findIn K (.ref C) "__setattr__") (some (some (.builtin "object.__setattr__"))) && decide (PySem.W.subIn K (.ref C) (.type "BaseException") = some true) && decide (PySem.W.typeIn K (.ref C) = some (.type "type")) && PySem.W.keepIn K (.ref C)
theorem oexB_ok {K : PySem.W.Frag} {C : Addr} (h : oexB K C = true) : OexC K C := by
  unfold oexB at h
  simp only [Bool.and_eq_true, decide_eq_true_eq] at h
  obtain ⟨⟨⟨⟨h1, h2⟩, h3⟩, h4⟩, h5⟩ := h
  refine ⟨?_, eqO_ok h2, h3, h4, h5⟩
  split at h1
  · rename_i t dd cd sl ho
    split at h1
    · rename_i C' bm k0 k1 k2 k3 n k5 hm hs
      simp only [Bool.and_eq_true, decide_eq_true_eq, Bool.not_eq_true'] at h1
      obtain ⟨⟨⟨⟨⟨rfl, rfl⟩, rfl⟩, hdel⟩, hdct⟩, hbm⟩ := h1
      obtain ⟨nm, bs, mro, ns, qn, hd, sn, sub, ab, col, del⟩ := cd
      dsimp only at hm hdel hdct
      subst hm hdel hdct
      have hsl : sl = #[k0, k1, k2, k3, some (.builtin "ValueError.__new__"), k5] := by
        obtain ⟨l⟩ := sl
        simp only at hs
        rw [hs]
      subst hsl
      exact ⟨nm, qn, ns, bs, bm, sn, sub, ab, col, dd, k0, k1, k2, k3, k5, ho, hbm⟩
    · cases h1
  · cases h1
def sysB (K : PySem.W.Frag) : Bool := match K.lookup sysModules with
  | some ⟨.type t, _, _, _⟩ => decide (t = "dict")
  | _ => false
theorem sysB_ok {K : PySem.W.Frag} (h : sysB K = true) : SysOk K := by
  unfold sysB at h
  split at h
  · rename_i t _ _ _ e; have := of_decide_eq_true h; subst this; exact ⟨_, e, rfl⟩
  · cases h
/-- a def that closes over its class -/
theorem SaysX.defC {chk : PySem.W.Frag → Bool} {fn : List DefX} {K : PySem.W.Frag} (c : SaysX chk fn K) {i : Nat} {d : DefX} (h : fn[i]? = some d) (hc : d.clo = [("__class__" : Str)]) :
    ∃ oc od osl kV doc pm an cdv ct cc, K.lookup (adX K d) = some ⟨oc, od, .func (PySem.W.ksFn d.name d.qual d.params d.body d.scope .none kV doc pm an cdv ct cc), osl⟩ ∧ PySem.W.codeIn K cdv d.qual = true := by
  have c2 := (ba (show (chk K && fn.all fun d => d.ok K) = true from congrArg (fun z : AlX => z.1) c)).2
  have e : fn.map (fun d => fnX' K d) = fn.map DefX.val := congrArg (fun z : AlX => z.2) c
  have e2 : (fn.map fun d => fnX' K d)[i]? = (fn.map DefX.val)[i]? := by rw [e]
  rw [List.getElem?_map, List.getElem?_map, h] at e2
  have e3 : fnX' K d = d.val := Option.some.inj e2
  obtain ⟨kp, c3⟩ := ba (show (PySem.W.keepIn K (.ref (adX K d)) && _) = true from List.all_eq_true.mp c2 d (List.mem_of_getElem? h))
  unfold fnX' at e3
  cases q : K.lookup (adX K d) with
  | none => rw [q] at c3; cases c3
  | some o =>
    obtain ⟨oc, od, dt, osl⟩ := o
    rw [q] at c3 e3
    cases dt with
    | func fd =>
      obtain ⟨n1, n2, n3, n4, n5, n6, n7, n8, n9, n10, n11, n12, n13, n14, n15⟩ := fd
      simp only [DefX.val, Option.some.injEq, Prod.mk.injEq] at e3
      obtain ⟨h1, h2, h3, h4, h5, h6, h7, h8, h9⟩ := e3
      rw [hc] at h7
      rcases n7 with _ | ⟨⟨x, cc⟩, _ | ⟨y, r⟩⟩
      · cases h7
      · have hx : x = ("__class__" : Str) := by simpa using h7
        have h8' : n8 = .none := by cases n8 <;> first | rfl | cases h8
        subst h1 h2 h3 h4 h5 h6 hx h8' h9
        exact ⟨oc, od, osl, n9, n10, n11, n12, n13, n14, cc, rfl, c3⟩
      · simp at h7
    | _ => cases c3
def xiB (P : Program) (K : PySem.W.Frag) : Bool := match K.lookup (fAd K ("StockError", some "__init__")) with
  | some ⟨_, _, .func fd, _⟩ => (match fd.code, fd.closure with
    | .ref cda, [(_, cc)] => (match K.lookup cda with
        | some ⟨_, _, .fields vs, _⟩ => (match (vs[2]? : Option Value) with
          | some (Value.str file _) => (P.main.file : Str) == file
          | _ => false)
        | _ => false) && (match K.lookup cc with
        | some ⟨_, _, .cell (some (.ref D')), _⟩ => decide (D' = ga K "StockError")
        | _ => false)
    | _, _ => false)
  | _ => false
def xcB (K : PySem.W.Frag) (C : Addr) : Bool := oexB K C && eqO (PySem.W.findIn K (.ref C) "__init__") (some (some (.ref (fAd K ("StockError", some "__init__"))))) && decide (PySem.W.mroIn K C (.ref (ga K "StockError")) = some true) &&
  (match PySem.W.clsIn K C with
  | some cd => eqO (PySem.W.alongIn K "__init__" ((cd.mro.dropWhile (· != .ref (ga K "StockError"))).drop 1)) (some (some (.builtin "ValueError.__init__")))
  | none => false) && decide (PySem.W.subIn K (.ref C) (.type "ValueError") = some true) && eqO (PySem.W.findIn K (.ref C) "value") (some none)
def xgB (P : Program) (K : PySem.W.Frag) : Bool := xiB P K && decide (PySem.W.typeIn K (.ref (fAd K ("StockError", some "__init__"))) = some (.type "function")) && (PySem.W.clsIn K (ga K "StockError")).isSome && eqO (PySem.W.nsIn K cStatics "thirdparty.any") (some none) && !(P.main.scope.names.lookup ("super" : Str)).isSome
theorem xf_ok {chk : PySem.W.Frag → Bool} {fn : List DefX} {K : PySem.W.Frag} {P : Program} {C : Addr} {i l : Nat} {qual : Str} {params : Arguments} {ar : Arg} (c : SaysX chk fn K) (hl : l = 5 ∨ l = 8)
    (h : fn[i]? = some ⟨("StockError", some "__init__"), "__init__", qual, params, xBody l, xScope, [("__class__" : Str)], false⟩) (har : (params.posonlyargs ++ params.args).head? = some ar) (hn : ar.arg = ("self" : Str))
    (hbind : ∀ (kV doc pm : Value) (an : Option Addr) (cd ct : Value) (cc : Addr) (e u : Value), bindArgs (PySem.W.ksFn "__init__" qual params (xBody l) xScope .none kV doc pm an cd ct cc) ⟨[e, u], []⟩ = pure [(("self" : Str), e), (("value" : Str), u)])
    (g : xgB P K = true) (x : xcB K C = true) : XF P K C := by
  obtain ⟨oc, od, osl, kV, doc, pm, an, cdv, ct, cc, lk, hcd⟩ := c.defC h rfl
  unfold xgB at g
  unfold xcB at x
  simp only [Bool.and_eq_true, decide_eq_true_eq, Bool.not_eq_true'] at g x
  obtain ⟨⟨⟨⟨g1, g2⟩, g3⟩, g4⟩, g5⟩ := g
  obtain ⟨⟨⟨⟨⟨x1, x2⟩, x3⟩, x4⟩, x5⟩, x6⟩ := x
  unfold xiB at g1
  rw [show K.lookup (fAd K ("StockError", some "__init__")) = _ from lk] at g1
  simp only at g1
  cases cdv with
  | ref cda =>
    simp only [Bool.and_eq_true] at g1
    obtain ⟨k1, k2⟩ := g1
    split at k1
    · rename_i ccl cdd vs ccs hco
      split at k1
      · rename_i file tf hvs
        split at k2
        · rename_i cl cld D' csl hce
          have hD := of_decide_eq_true k2
          subst hD
          obtain ⟨cdD, hcD⟩ := Option.isSome_iff_exists.mp g3
          split at x4
          · rename_i cdC hcC
            exact ⟨oexB_ok x1, ⟨_, _, _, _, _, _, _, _, _, _, l, _, _, _, _, _, _, _, _, _, _, _, _, _, _, _, _, _, hl, lk, hcd, eqO_ok x2, g2, ⟨ar, har, hn⟩, fun e u => hbind _ _ _ _ _ _ _ e u, hco, hvs, k1, hce, hcD, x3, hcC, eqO_ok x4⟩, x5, eqO_ok g4, eqO_ok x6, g5⟩
          · cases x4
        · cases k2
      · cases k1
    · cases k1
  | _ => cases g1
end Eg
set_option Elab.async false
set_option linter.all false
set_option maxRecDepth 100000
set_option maxHeartbeats 8000000
/-! the engine: the classes of a law, from the head's facts -/
namespace Eg
open PySem PySem.Spec PyProof.Rows L2
open He hiding SaysX obsX valX saysX_of AlX hookX

/-- one class: its name, whether it is an exception, its instances' fields, isinstance's answers (all classes; tgNs) -/
structure CD where
  name : Str
  isX : Bool
  fl : List Str
  sub : List Bool
  subB : List Bool
  props : List (Nat × Nat) := []
  init : Option Nat := none
def statOf (cs : List CD) (nms : List Str) : Stat where
  nC := cs.length
  isX c := match cs[c]? with
    | some d => d.isX
    | none => false
  fld c n := match cs[c]? with
    | some d => if d.isX then none else (match nms[n]? with
      | some x => ixOf x d.fl
      | none => none)
    | none => none
  prop c n := match cs[c]? with
    | some d => d.props.lookup n
    | none => none
  meth _ _ := none
  init c := match cs[c]? with
    | some d => d.init
    | none => none
  dun _ _ := none
  sub c j := match cs[c]? with
    | some d => d.sub.getD j false
    | none => false
  subB c s := match cs[c]? with
    | some d => ((tgNs.zip d.subB).lookup s).getD false
    | none => false
/-- the name of a lambda of a def -/
def lamN (q : Str) : Str := (envOfC q { kind := .function, names := [], isGenerator := false, isCoroutine := false, more := [] } 0 0 .none).qual ++ "<lambda>"
/-- the defs that make lambdas: their tables -/
def tabT (K : PySem.W.Frag) (tf : List (Defn × Str)) : List (Addr × Str) := tf.map fun p => ((cT K p.1).2, lamN p.2)
def wdOf (K : PySem.W.Frag) (cs : List CD) (tf : List (Defn × Str)) : Wd := ⟨K, fun c => match cs[c]? with
  | some d => ga K d.name
  | none => 0, fun c => match cs[c]? with
  | some d => d.fl
  | none => [], tabT K tf⟩
def clsIB (K : PySem.W.Frag) (x : Str) : Bool := (Fa.cls x).ok K && eqO (PySem.W.findIn K (.ref (ga K x)) "__class__") (some (some (.builtin "object.__class__"))) &&
  eqO (PySem.W.specialIn K (.builtin "object.__class__") "__get__") (some (some (.builtin "getset_descriptor.__get__"))) && decide (PySem.W.takesIn K (.builtin "object.__class__") = some true) && decide (PySem.W.mroIn K (ga K x) (.type "object") = some true)
theorem clsIB_ok {K : PySem.W.Frag} {x : Str} (h : clsIB K x = true) : ClsI K (ga K x) := by
  unfold clsIB at h
  simp only [Bool.and_eq_true, decide_eq_true_eq] at h
  obtain ⟨⟨⟨⟨h1, h2⟩, h3⟩, h4⟩, h5⟩ := h
  exact ⟨He.cls_ok h1, eqO_ok h2, eqO_ok h3, h4, h5⟩
def clB (K : PySem.W.Frag) (cs : List CD) (nms : List Str) (c : Nat) (d : CD) : Bool :=
  eqO (PySem.W.nsIn K mainGlobals d.name) (some (some (.ref (ga K d.name)))) &&
  (if d.isX then clsEB K (ga K d.name) && eqO (PySem.W.findIn K (.ref (ga K d.name)) "value") (some none) && PySem.W.hasDictIn K (ga K d.name)
   else clsIB K d.name && nms.all fun x => if (ixOf x d.fl).isSome then eqO (PySem.W.findIn K (.ref (ga K d.name)) x) (some none) else true) &&
  ((List.range cs.length).all fun j => match cs[j]? with
    | some e => decide (PySem.W.kitOne K (.ref (ga K d.name)) (.ref (ga K e.name)) = some (d.sub.getD j false))
    | none => false) &&
  (tgNs.all fun s => decide (PySem.W.kitOne K (.ref (ga K d.name)) (.type s) = some (((tgNs.zip d.subB).lookup s).getD false))) &&
  (tyNs.all fun t => decide (PySem.W.kitOne K (.type t) (.ref (ga K d.name)) = some false)) && decide (d.fl.Nodup) && decide (d.fl.length < 1000)
def clsB (K : PySem.W.Frag) (cs : List CD) (nms : List Str) : Bool := (List.range cs.length).all fun c => match cs[c]? with
  | some d => clB K cs nms c d
  | none => false
section
variable {K : PySem.W.Frag} {cs : List CD} {nms : List Str} {tf : List (Defn × Str)}
theorem clsB_at (h : clsB K cs nms = true) {c : Nat} {d : CD} (hd : cs[c]? = some d) : clB K cs nms c d = true := by
  have hc : c < cs.length := (List.getElem?_eq_some_iff.mp hd).1
  have := List.all_eq_true.mp h c (List.mem_range.mpr hc)
  rw [hd] at this
  exact this
theorem clB_and {c : Nat} {d : CD} (h : clB K cs nms c d = true) : eqO (PySem.W.nsIn K mainGlobals d.name) (some (some (.ref (ga K d.name)))) = true ∧
    (if d.isX then clsEB K (ga K d.name) && eqO (PySem.W.findIn K (.ref (ga K d.name)) "value") (some none) && PySem.W.hasDictIn K (ga K d.name)
     else clsIB K d.name && nms.all fun x => if (ixOf x d.fl).isSome then eqO (PySem.W.findIn K (.ref (ga K d.name)) x) (some none) else true) = true ∧
    (∀ j, j < cs.length → ∃ e, cs[j]? = some e ∧ PySem.W.kitOne K (.ref (ga K d.name)) (.ref (ga K e.name)) = some (d.sub.getD j false)) ∧
    (∀ s ∈ tgNs, PySem.W.kitOne K (.ref (ga K d.name)) (.type s) = some (((tgNs.zip d.subB).lookup s).getD false)) ∧
    (∀ t ∈ tyNs, PySem.W.kitOne K (.type t) (.ref (ga K d.name)) = some false) ∧ d.fl.Nodup ∧ d.fl.length < 1000 := by
  unfold clB at h
  simp only [Bool.and_eq_true] at h
  obtain ⟨⟨⟨⟨⟨⟨h1, h2⟩, h3⟩, h4⟩, h5⟩, h6⟩, h7⟩ := h
  refine ⟨h1, h2, fun j hj => ?_, fun s hs => of_decide_eq_true (List.all_eq_true.mp h4 s hs), fun t ht => of_decide_eq_true (List.all_eq_true.mp h5 t ht), of_decide_eq_true h6, of_decide_eq_true h7⟩
  have := List.all_eq_true.mp h3 j (List.mem_range.mpr hj)
  cases e : cs[j]? with
  | none => rw [e] at this; cases this
  | some e' => rw [e] at this; exact ⟨e', rfl, of_decide_eq_true this⟩
theorem get_of_lt {c : Nat} (h : c < cs.length) : ∃ d, cs[c]? = some d := ⟨_, List.getElem?_eq_getElem h⟩
theorem wokB (h : clsB K cs nms = true) : WOk (wdOf K cs tf) (statOf cs nms) := by
  refine ⟨fun c hc hx => ?_, fun c hc hx => ?_, fun c hc j hj => ?_, fun c hc s hs => ?_, fun t ht j hj => ?_⟩
  · obtain ⟨d, hd⟩ := get_of_lt hc
    obtain ⟨_, h2, _⟩ := clB_and (clsB_at h hd)
    simp only [statOf, hd] at hx
    simp only [hx, Bool.false_eq_true, if_false, Bool.and_eq_true] at h2
    simp only [wdOf, hd]
    exact clsIB_ok h2.1
  · obtain ⟨d, hd⟩ := get_of_lt hc
    obtain ⟨_, h2, _⟩ := clB_and (clsB_at h hd)
    simp only [statOf, hd] at hx
    simp only [hx, if_true, Bool.and_eq_true] at h2
    simp only [wdOf, hd]
    exact clsEB_ok h2.1.1
  · obtain ⟨d, hd⟩ := get_of_lt hc
    obtain ⟨_, _, h3, _⟩ := clB_and (clsB_at h hd)
    obtain ⟨e, he, k⟩ := h3 j hj
    simp only [wdOf, statOf, hd, he]
    exact k
  · obtain ⟨d, hd⟩ := get_of_lt hc
    obtain ⟨_, _, _, h4, _⟩ := clB_and (clsB_at h hd)
    simp only [wdOf, statOf, hd]
    exact h4 s hs
  · obtain ⟨d, hd⟩ := get_of_lt hj
    obtain ⟨_, _, _, _, h5, _⟩ := clB_and (clsB_at h hd)
    simp only [wdOf, hd]
    exact h5 t ht
theorem fldB (h : clsB K cs nms = true) (nm : Nat → Str) (hnm : ∀ n x, nms[n]? = some x → nm n = x) (hv : nms[0]? = some ("value" : Str)) : FldOk (wdOf K cs tf) (statOf cs nms) nm := by
  refine ⟨fun c n k hk => ?_, fun c => ?_, fun c => ?_, hnm 0 _ hv, fun c hx hc => ?_⟩
  · simp only [statOf] at hk
    cases hd : cs[c]? with
    | none => rw [hd] at hk; cases hk
    | some d =>
      rw [hd] at hk
      simp only at hk
      cases hx : d.isX with
      | true => rw [hx] at hk; simp at hk
      | false =>
        rw [hx] at hk
        simp only [Bool.false_eq_true, if_false] at hk
        cases hn : nms[n]? with
        | none => rw [hn] at hk; cases hk
        | some x =>
          rw [hn] at hk
          simp only at hk
          obtain ⟨_, h2, _⟩ := clB_and (clsB_at h hd)
          simp only [hx, Bool.false_eq_true, if_false, Bool.and_eq_true] at h2
          have := List.all_eq_true.mp h2.2 x (List.mem_of_getElem? hn)
          rw [hk] at this
          simp only [Option.isSome_some, if_true] at this
          simp only [wdOf, hd, hnm n x hn]
          exact ⟨(clsIB_ok h2.1).cl, eqO_ok this, ixOf_get hk⟩
  · simp only [wdOf]
    cases hd : cs[c]? with
    | none => exact List.nodup_nil
    | some d => exact (clB_and (clsB_at h hd)).2.2.2.2.2.1
  · simp only [wdOf]
    cases hd : cs[c]? with
    | none => exact Nat.zero_lt_succ _
    | some d => exact (clB_and (clsB_at h hd)).2.2.2.2.2.2
  · obtain ⟨d, hd⟩ := get_of_lt (cs := cs) hc
    obtain ⟨_, h2, _⟩ := clB_and (clsB_at h hd)
    simp only [statOf, hd] at hx
    simp only [hx, if_true, Bool.and_eq_true] at h2
    simp only [wdOf, hd]
    exact ⟨eqO_ok h2.1.2, h2.2⟩
/-- a class stands for its name -/
theorem clsMg {h : Heap} {mg : Str → Option Value} (X : K.In h) (G : h.Ns mainGlobals mg) (hB : clsB K cs nms = true) {c : Nat} {d : CD} (hd : cs[c]? = some d) : mg d.name = some (.ref ((wdOf K cs tf).cA c)) := by
  obtain ⟨h1, _⟩ := clB_and (clsB_at hB hd)
  simp only [wdOf, hd]
  exact PySem.W.mg_of X G (eqO_ok h1)
end
/-- the built-ins' names are free -/
def freeB (gs : List (Str × Gk)) (K : PySem.W.Frag) : Bool := (bls.all fun x => if (gs.lookup x).isNone then (Fa.free x).ok K else true) && (Fa.free "super").ok K
theorem freeB_bl {gs : List (Str × Gk)} {K : PySem.W.Frag} {h : Heap} {mg : Str → Option Value} (X : K.In h) (G : h.Ns mainGlobals mg) (c : freeB gs K = true) {x : Str} (hx : bls.contains x = true) (hn : gs.lookup x = none) : mg x = none := by
  have := List.all_eq_true.mp (ba c).1 x (List.contains_iff_mem.mp hx)
  rw [hn] at this
  exact free_ok X G this
theorem freeB_sup {gs : List (Str × Gk)} {K : PySem.W.Frag} {h : Heap} {mg : Str → Option Value} (X : K.In h) (G : h.Ns mainGlobals mg) (c : freeB gs K = true) : mg "super" = none := free_ok X G (ba c).2
/-! ### except clauses, properties, __init__, constants -/
def xmB (K : PySem.W.Frag) (cs : List CD) : Bool := (List.range cs.length).all fun k => (List.range cs.length).all fun c => match cs[k]?, cs[c]? with
  | some d, some e => if d.isX && d.sub.getD c false then decide (PySem.W.exmOne K (.ref (ga K d.name)) (.ref (ga K e.name)) = some true) else true
  | _, _ => true
theorem xmB_ok {K : PySem.W.Frag} {cs : List CD} {nms : List Str} {tf : List (Defn × Str)} (h : xmB K cs = true) : XmOk (wdOf K cs tf) (statOf cs nms) := by
  refine ⟨fun k c hk hc hx hs => ?_⟩
  have h1 := List.all_eq_true.mp (List.all_eq_true.mp h k (List.mem_range.mpr hk)) c (List.mem_range.mpr hc)
  obtain ⟨d, hd⟩ := get_of_lt hk
  obtain ⟨e, he⟩ := get_of_lt hc
  simp only [statOf, hd] at hx hs
  simp only [hd, he, hx, hs, Bool.and_self, if_true, decide_eq_true_eq] at h1
  simp only [wdOf, hd, he]
  exact h1
def propB (K : PySem.W.Frag) (C : Addr) (x : Str) : Bool := eqO (PySem.W.findIn K (.ref C) x) (some (some (.ref (ma K C x)))) && eqO (PySem.W.specialIn K (.ref (ma K C x)) "__get__") (some (some (.builtin "property.__get__"))) && decide (PySem.W.takesIn K (.ref (ma K C x)) = some true) &&
  (match PySem.W.recIn K (ma K C x) "property" with
  | some (.ref _ :: _) => true
  | _ => false)
theorem propB_ok {K : PySem.W.Frag} {C : Addr} {x : Str} (h : propB K C x = true) : PropOf K C x (ma K C x) (propGet K (ma K C x)) := by
  unfold propB at h
  simp only [Bool.and_eq_true, decide_eq_true_eq] at h
  obtain ⟨⟨⟨h1, h2⟩, h3⟩, h4⟩ := h
  refine ⟨eqO_ok h1, eqO_ok h2, h3, ?_⟩
  split at h4
  · rename_i g rest e
    refine ⟨rest, ?_⟩
    unfold propGet
    rw [e]
  · cases h4
mutual
/-- a constant of the module -/
def repK (K : PySem.W.Frag) : D → Value → Bool
  | .non, .none => true
  | .bl b, .bool b' => b == b'
  | .int i, .int j _ => decide (i = j)
  | .str s, .str s' _ => decide (s = s')
  | .tup ds, .ref a => match K.lookup a with
    | some ⟨.type t, none, .seq its _, _⟩ => decide (t = "tuple") && decide (its.size ≤ 1000) && repKs K ds its.toList
    | _ => false
  | _, _ => false
def repKs (K : PySem.W.Frag) : List D → List Value → Bool
  | [], [] => true
  | d :: ds, u :: us => repK K d u && repKs K ds us
  | _, _ => false
end
mutual
theorem repK_ok {W : Wd} : ∀ {d : D} {u : Value}, repK W.K d u = true → ∃ v, RelV v u ∧ ∀ H, Rep W H d v
  | .non, .none, _ => ⟨.non, rfl, fun H => .non⟩
  | .bl b, .bool b', h => by
    have : b = b' := by simpa [repK] using h
    subst this; exact ⟨.bl b, rfl, fun H => .bl b⟩
  | .int i, .int j t, h => by
    have : i = j := by simpa [repK] using h
    subst this; exact ⟨.int i, ⟨t, rfl⟩, fun H => .int i⟩
  | .str i, .str j t, h => by
    have : i = j := by simpa [repK] using h
    subst this; exact ⟨.str i, ⟨t, rfl⟩, fun H => .str i⟩
  | .tup ds, .ref a, h => by
    simp only [repK] at h
    split at h
    · rename_i t its n sl e
      simp only [Bool.and_eq_true, decide_eq_true_eq] at h
      obtain ⟨⟨rfl, h2⟩, h3⟩ := h
      obtain ⟨vs, r1, r2⟩ := repKs_ok h3
      exact ⟨.ref a, rfl, fun H => .tup (.inr ⟨_, its, n, e, rfl, rfl, rfl, by rw [sizeLine_eq]; omega, r1⟩) (r2 H)⟩
    · cases h
theorem repKs_ok {W : Wd} : ∀ {ds : List D} {us : List Value}, repKs W.K ds us = true → ∃ vs, Vals vs us ∧ ∀ H, Reps W H ds vs
  | [], [], _ => ⟨[], .nil, fun H => .nil⟩
  | d :: ds, u :: us, h => by
    simp only [repKs, Bool.and_eq_true] at h
    obtain ⟨v, r1, r2⟩ := repK_ok h.1
    obtain ⟨vs, r3, r4⟩ := repKs_ok h.2
    exact ⟨v :: vs, .cons r1 r3, fun H => .cons (r2 H) (r4 H)⟩
end
def cstB (gs : List (Str × Gk)) (K : PySem.W.Frag) : Bool := gs.all fun p => match p.2 with
  | .cst d => (match PySem.W.nsIn K mainGlobals p.1 with
    | some (some u) => repK K d u
    | _ => false)
  | _ => true
end Eg
set_option Elab.async false
set_option linter.all false
set_option maxRecDepth 100000
set_option maxHeartbeats 8000000
/-! the engine: all defs of a law keep the promises of the evaluator -/
namespace Eg
open PySem PySem.Spec PyProof.Rows L2
open He hiding SaysX obsX valX saysX_of AlX hookX

theorem memOfLookup {α β : Type} [BEq α] [LawfulBEq α] {x : α} {y : β} : ∀ {l : List (α × β)}, l.lookup x = some y → (x, y) ∈ l
  | [], h => nomatch h
  | (a, b) :: l, h => by
    rw [List.lookup_cons] at h
    split at h
    · rename_i e
      cases h
      rw [eq_of_beq e]
      exact List.mem_cons_self
    · exact List.mem_cons_of_mem _ (memOfLookup h)
/-- a def: its data, its names, its parameters, what it is compiled to, whether it makes lambdas -/
structure LDef where
  d : DefX
  N : List Str
  ps : List Str
  fn : Fn
  lam : Bool := false
structure LDef.Good (gt : Gt) (l : LDef) : Prop where
  sc : FnScope l.N l.ps l.d.scope
  np : l.fn.np = l.ps.length
  nl : l.fn.nl = l.N.length
  cmp : ∃ m, cSs { gt with lam := l.lam } ⟨l.N, l.d.scope.names, l.d.scope.names⟩ m l.d.body = some l.fn.body
  clo : l.d.clo = []
  bnd : ∀ (kV doc pm : Value) (an : Option Addr) (cdv ct : Value) (us : List Value), us.length = l.ps.length → bindArgs (PySem.W.fnOf l.d.name l.d.qual l.d.params l.d.body l.d.scope .none kV doc pm an cdv ct) ⟨us, []⟩ = pure (l.ps.zip us)
/-- the table's own law -/
def gs1 (cs : List CD) (defs : List LDef) (x : Str) (g : Gk) : Bool := match g with
  | .fn f => (match defs[f]? with
    | some l => decide (l.d.at_ = (x, none)) && !l.d.prop
    | none => false)
  | .exc c => (match cs[c]? with
    | some d => decide (d.name = x)
    | none => false)
  | .cls c => (match cs[c]? with
    | some d => decide (d.name = x)
    | none => false)
  | .cst _ => true
  | .told c => decide (c < cs.length)
def gsOk (cs : List CD) (defs : List LDef) (gs : List (Str × Gk)) : Bool := gs.all fun p => gs1 cs defs p.1 p.2
/-- the classes' own defs -/
def clsDefs (cs : List CD) (nms : List Str) (defs : List LDef) : Bool := cs.all fun d => (d.props.all fun p => match nms[p.1]?, defs[p.2]? with
  | some x, some l => decide (l.d.at_ = (d.name, some x)) && l.d.prop
  | _, _ => false) && (match d.init with
  | some f => (match defs[f]? with
    | some l => decide (l.d.at_ = (d.name, some ("__init__" : Str))) && !l.d.prop
    | none => false)
  | none => true)
def gloB (gs : List (Str × Gk)) (K : PySem.W.Frag) : Bool := gs.all fun p => match p.2 with
  | .cst _ => true
  | _ => (Fa.glo p.1).ok K
def clsK (cs : List CD) (nms : List Str) (K : PySem.W.Frag) : Bool := cs.all fun d => (d.props.all fun p => propB K (ga K d.name) (nms.getD p.1 "")) && (if d.props.isEmpty then true else (Fa.cls d.name).ok K) && (if d.init.isSome then (Fa.mkr d.name).ok K else true)
def chkX (cs : List CD) (nms : List Str) (gs : List (Str × Gk)) (K : PySem.W.Frag) : Bool := clsB K cs nms && (freeB gs K && (sysB K && (gloB gs K && (xmB K cs && (cstB gs K && clsK cs nms K)))))
/-- the def that is handed lambdas -/
structure ToldD (K : PySem.W.Frag) (cs : List CD) (x : Str) (c : Nat) : Prop where
  ok : ∃ (d : DefX) (t : ToldP), d.at_ = (x, none) ∧ d.prop = false ∧ d.name = x ∧ d.qual = x ∧
    (∃ oc od osl kV doc pm an cdv ct, K.lookup (adX K d) = some ⟨oc, od, .func (PySem.W.fnOf d.name d.qual d.params d.body d.scope .none kV doc pm an cdv ct), osl⟩ ∧ PySem.W.codeIn K cdv d.qual = true ∧ PySem.W.keepIn K (.ref (adX K d)) = true) ∧
    (∀ (kV doc pm : Value) (an : Option Addr) (cdv ct : Value) (us : List Value), us.length = 1 → bindArgs (PySem.W.fnOf d.name d.qual d.params d.body d.scope .none kV doc pm an cdv ct) ⟨us, []⟩ = pure ([t.a].zip us)) ∧
    FnScope t.N [t.a] d.scope ∧ t.Ok d.scope ∧ (∃ e, cs[c]? = some e ∧ e.name = t.e) ∧
    ∃ (k1 k2 k3 j1 j2 : Nat) (q1 q2 q3 q4 q5 q6 q7 q8 q9 q10 q11 q12 q13 q14 q15 q16 q17 q18 q19 q20 q21 : Pos), d.body = t.body k1 k2 k3 j1 j2 q1 q2 q3 q4 q5 q6 q7 q8 q9 q10 q11 q12 q13 q14 q15 q16 q17 q18 q19 q20 q21
/-- what a law's defs stand on -/
structure LawB (K : PySem.W.Frag) (P : Program) (cs : List CD) (nms : List Str) (gs : List (Str × Gk)) (ow : List (List Bool)) (mks : List Bool) (tf : List (Defn × Str)) (defs : List LDef) : Prop where
  chk : chkX cs nms gs K = true
  def_ : ∀ (f : Nat) (l : LDef), defs[f]? = some l → ∃ oc od osl kV doc pm an cdv ct, K.lookup (adX K l.d) = some ⟨oc, od, .func (PySem.W.fnOf l.d.name l.d.qual l.d.params l.d.body l.d.scope .none kV doc pm an cdv ct), osl⟩ ∧ PySem.W.codeIn K cdv l.d.qual = true ∧ PySem.W.keepIn K (.ref (adX K l.d)) = true
  good : ∀ (f : Nat) (l : LDef), defs[f]? = some l → l.Good ⟨gs, nms, ow, mks, false⟩
  tab : gsOk cs defs gs = true
  cdf : clsDefs cs nms defs = true
  mkI : ∀ c d, cs[c]? = some d → mks.getD c false = true → d.init.isSome = true
  xf : ∀ (x : Str) (c : Nat) (d : CD), gs.lookup x = some (.exc c) → cs[c]? = some d → XF P K (ga K d.name)
  val : nms[0]? = some ("value" : Str)
  told : ∀ (x : Str) (c : Nat), gs.lookup x = some (.told c) → ToldD K cs x c
  lam : ∀ (f : Nat) (l : LDef), defs[f]? = some l → l.lam = true → (l.d.at_, l.d.qual) ∈ tf ∧ l.d.prop = false
  uni : ∀ p ∈ tabT K tf, ∀ q ∈ tabT K tf, p.1 = q.1 → p.2 = q.2
section
variable {K : PySem.W.Frag} {P : Program} {cs : List CD} {nms : List Str} {gs : List (Str × Gk)} {ow : List (List Bool)} {mks : List Bool} {tf : List (Defn × Str)} {defs : List LDef}
theorem LawB.parts (B : LawB K P cs nms gs ow mks tf defs) : clsB K cs nms = true ∧ freeB gs K = true ∧ sysB K = true ∧ gloB gs K = true ∧ xmB K cs = true ∧ cstB gs K = true ∧ clsK cs nms K = true := by
  have := B.chk
  unfold chkX at this
  simp only [Bool.and_eq_true] at this
  obtain ⟨h1, h2, h3, h4, h5, h6, h7⟩ := this
  exact ⟨h1, h2, h3, h4, h5, h6, h7⟩
theorem LawB.glo (B : LawB K P cs nms gs ow mks tf defs) {x : Str} {g : Gk} (h : gs.lookup x = some g) (ng : ∀ d, g ≠ .cst d) : eqO (PySem.W.nsIn K mainGlobals x) (some (some (.ref (ga K x)))) = true := by
  have := List.all_eq_true.mp B.parts.2.2.2.1 (x, g) (PySem.mem_of_lookup h)
  cases g with
  | cst d => exact absurd rfl (ng d)
  | _ => exact this
theorem LawB.tabAt (B : LawB K P cs nms gs ow mks tf defs) {x : Str} {g : Gk} (h : gs.lookup x = some g) : gs1 cs defs x g = true := List.all_eq_true.mp B.tab (x, g) (PySem.mem_of_lookup h)
abbrev evD (cs : List CD) (nms : List Str) (n : Nat) (defs : List LDef) (k : Nat) : Nat → Env → OutF := evF (statOf cs nms) reprD n (defs.map (·.fn)) k
/-- what is promised of the defs at a depth -/
def LawB.At (B : LawB K P cs nms gs ow mks tf defs) (w : World) (mg : Str → Option Value) (base : Heap) (n k : Nat) : Prop :=
  ∀ (f : Nat) (l : LDef), defs[f]? = some l → ∀ {oc : Value} {od : Option Addr} {osl : Array (Option Value)} {kV doc pm : Value} {an : Option Addr} {cdv ct : Value},
    K.lookup (adX K l.d) = some ⟨oc, od, .func (PySem.W.fnOf l.d.name l.d.qual l.d.params l.d.body l.d.scope .none kV doc pm an cdv ct), osl⟩ → PySem.W.codeIn K cdv l.d.qual = true →
    FnE (wdOf K cs tf) P w mg base (6 * k + 13) (adX K l.d) (PySem.W.fnOf l.d.name l.d.qual l.d.params l.d.body l.d.scope .none kV doc pm an cdv ct) l.ps (evD cs nms n defs k f)
theorem LawB.core (B : LawB K P cs nms gs ow mks tf defs) {w : World} {mg : Str → Option Value} {base : Heap} (X : K.In base) (G : base.Ns mainGlobals mg) {n k : Nat} (ih : B.At w mg base n k) {lm : Bool} :
    ∀ (Y : Cx), Y.prog = P → Y.w = w → Y.K = K → Y.mg = mg → Y.base = base → Room (6 * k + 14) Y.A → GCore (wdOf K cs tf) Y (statOf cs nms) (evD cs nms n defs k) ⟨gs, nms, ow, mks, lm⟩ := by
  rintro Y rfl rfl hK rfl rfl hr
  obtain ⟨b1, b2, b3, b4, b5, b6, b7⟩ := B.parts
  have fnAt : ∀ (f : Nat) (l : LDef), defs[f]? = some l → FnAt (wdOf K cs tf) Y (evD cs nms n defs k) f (adX K l.d) := fun f l hf => by
    obtain ⟨oc', od', osl', kV', doc', pm', an', cdv', ct', lk', hcd', hkp'⟩ := B.def_ f l hf
    refine ⟨⟨6 * k + 13, _, l.ps, ih f l hf lk' hcd', hr, ?_⟩, hK ▸ hkp'⟩
    have h3 : Binds K (PySem.W.fnOf l.d.name l.d.qual l.d.params l.d.body l.d.scope .none kV' doc' pm' an' cdv' ct') l.ps [] := .all ((B.good f l hf).bnd kV' doc' pm' an' cdv' ct')
    exact hK ▸ h3
  have cdf : ∀ d ∈ cs, _ := fun d hd => List.all_eq_true.mp B.cdf d hd
  have ck : ∀ d ∈ cs, _ := fun d hd => List.all_eq_true.mp b7 d hd
  refine ⟨fun x f h => ?_, fun x c h => ?_, fun x c h => ?_, fun x d h => ?_, fun x c h hm => ?_, fun x c h => ?_, freeB_sup X G b2, fun x hx hn => freeB_bl X G b2 hx hn, wokB b1, xmB_ok b5, fldB b1 _ (fun n x h => ?_) B.val, ⟨fun c n f h => ?_⟩, ?_, hK ▸ sysB_ok b3⟩
  · have t := B.tabAt h
    simp only [gs1] at t
    cases hf : defs[f]? with
    | none => rw [hf] at t; cases t
    | some l =>
      rw [hf] at t
      simp only [Bool.and_eq_true, decide_eq_true_eq, Bool.not_eq_true'] at t
      have ea : adX K l.d = ga K x := by unfold adX; rw [t.2, t.1]; rfl
      exact ⟨ga K x, PySem.W.mg_of X G (eqO_ok (B.glo h fun d z => nomatch z)), ea ▸ fnAt f l hf⟩
  · have t := B.tabAt h
    simp only [gs1] at t
    cases hc : cs[c]? with
    | none => rw [hc] at t; cases t
    | some d =>
      rw [hc] at t
      have hn : d.name = x := of_decide_eq_true t
      subst hn
      have ec : (wdOf K cs tf).cA c = ga K d.name := by simp only [wdOf, hc]
      rw [ec]
      exact ⟨PySem.W.mg_of X G (eqO_ok (B.glo h fun d z => nomatch z)), hK ▸ B.xf _ c d h hc⟩
  · have t := B.tabAt h
    simp only [gs1] at t
    cases hc : cs[c]? with
    | none => rw [hc] at t; cases t
    | some d =>
      rw [hc] at t
      have hn : d.name = x := of_decide_eq_true t
      subst hn
      exact clsMg X G b1 hc
  · have := List.all_eq_true.mp b6 (x, .cst d) (PySem.mem_of_lookup h)
    simp only at this
    split at this
    · rename_i u e
      obtain ⟨v, r1, r2⟩ := repK_ok (W := wdOf K cs tf) this
      exact ⟨u, v, PySem.W.mg_of X G e, r1, r2⟩
    · cases this
  · have t := B.tabAt h
    simp only [gs1] at t
    cases hc : cs[c]? with
    | none => rw [hc] at t; cases t
    | some d =>
      have hd : d ∈ cs := List.mem_of_getElem? hc
      obtain ⟨f, hfi⟩ := Option.isSome_iff_exists.mp (B.mkI c d hc hm)
      have k1 := cdf d hd
      have k2 := ck d hd
      simp only [Bool.and_eq_true, hfi, Option.isSome_some, if_true] at k1 k2
      have k3 := k1.2
      cases hf : defs[f]? with
      | none => rw [hf] at k3; cases k3
      | some l =>
        rw [hf] at k3
        simp only [Bool.and_eq_true, decide_eq_true_eq, Bool.not_eq_true'] at k3
        have ea : adX K l.d = ma K (ga K d.name) "__init__" := by unfold adX; rw [k3.2, k3.1]; rfl
        have ec : (wdOf K cs tf).cA c = ga K d.name := by simp only [wdOf, hc]
        refine ⟨f, ma K (ga K d.name) "__init__", by simp only [statOf, hc, hfi], ?_, ea ▸ fnAt f l hf⟩
        rw [ec, hK]
        exact mkr_ok k2.2
  · obtain ⟨d, t, ea, ep, en, eq, ⟨oc, od, osl, kV, doc, pm, an, cdv, ct, lk, hcd, hkp⟩, hb, Sg, ok, ⟨e, hce, hne⟩, k1, k2, k3, j1, j2, q1, q2, q3, q4, q5, q6, q7, q8, q9, q10, q11, q12, q13, q14, q15, q16, q17, q18, q19, q20, q21, ebd⟩ := (B.told x c h).ok
    have hadr : adX K d = ga K x := by unfold adX; rw [ep, ea]; rfl
    rw [hadr] at lk hkp
    have hbb : Binds K (PySem.W.fnOf d.name d.qual d.params d.body d.scope .none kV doc pm an cdv ct) [t.a] [] := .all (hb kV doc pm an cdv ct)
    rw [en, eq] at lk hbb
    rw [eq] at hcd
    refine ⟨t, ga K x, ⟨⟨d.params, d.body, d.scope, .none, kV, doc, pm, cdv, ct, oc, an, od, osl, hK ▸ lk, hK ▸ hcd, hK ▸ hbb, Sg, ok, k1, k2, k3, j1, j2, q1, q2, q3, q4, q5, q6, q7, q8, q9, q10, q11, q12, q13, q14, q15, q16, q17, q18, q19, q20, q21, ebd⟩, hK ▸ hkp, PySem.W.mg_of X G (eqO_ok (B.glo h fun d z => nomatch z)), ?_⟩⟩
    rw [← hne]
    exact clsMg X G b1 hce
  · show (nms[n]?).getD "" = x
    rw [h]; rfl
  · simp only [statOf] at h
    cases hc : cs[c]? with
    | none => rw [hc] at h; cases h
    | some d =>
      rw [hc] at h
      have hd : d ∈ cs := List.mem_of_getElem? hc
      have h9 : d.props.lookup n = some f := h
      have hmem := memOfLookup h9
      have k1 := cdf d hd
      have k2 := ck d hd
      simp only [Bool.and_eq_true] at k1 k2
      have k3 := List.all_eq_true.mp k1.1 _ hmem
      have k4 := List.all_eq_true.mp k2.1.1 _ hmem
      have hne : d.props.isEmpty = false := by
        cases hp : d.props with
        | nil => rw [hp] at hmem; cases hmem
        | cons _ _ => rfl
      have k5 := k2.1.2
      rw [hne] at k5
      simp only at k3 k4
      split at k3
      · rename_i x l hx hl
        simp only [Bool.and_eq_true, decide_eq_true_eq] at k3
        have ec : (wdOf K cs tf).cA c = ga K d.name := by simp only [wdOf, hc]
        have ex : nms.getD n "" = x := by rw [List.getD_eq_getElem?_getD, hx]; rfl
        have en : nmOf ⟨gs, nms, ow, mks, lm⟩ n = x := by show (nms[n]?).getD "" = x; rw [hx]; rfl
        rw [ex] at k4
        have ea : adX K l.d = propGet K (ma K (ga K d.name) x) := by unfold adX; rw [k3.2, k3.1]; rfl
        refine ⟨ma K (ga K d.name) x, propGet K (ma K (ga K d.name) x), ?_, ?_, ea ▸ fnAt f l hl⟩
        · rw [ec, en, hK]; exact propB_ok k4
        · rw [ec, hK]; exact He.cls_ok k5
      · cases k3
  · have := hr.dp; omega
/-- every def, to every depth -/
theorem LawB.fnE (B : LawB K P cs nms gs ow mks tf defs) {w : World} {mg : Str → Option Value} {base : Heap} (X : K.In base) (G : base.Ns mainGlobals mg) (TB : ∀ p ∈ csOf (tf.map (·.1)) K, LamX.TabB base mg p.1 p.2) (n : Nat) : ∀ k, B.At w mg base n k
  | 0 => fun f l hl {oc od osl kV doc pm an cdv ct} lk hcd => ⟨fun args nb => absurd rfl nb, fun A outer s H as us vs args In Q E _ _ _ _ _ _ _ _ hq => hq.elim⟩
  | k + 1 => fun f l hl {oc od osl kV doc pm an cdv ct} lk hcd => by
    have gd := B.good f l hl
    have ih := B.fnE (w := w) X G TB n k
    obtain ⟨m, hm⟩ := gd.cmp
    have e : evD cs nms n defs (k + 1) f = evFn (statOf cs nms) reprD n (evD cs nms n defs k) l.fn := by
      funext args
      simp only [evD, evF, List.getElem?_map, hl, Option.map_some]
    rw [e]
    refine fnE_of (k := 6 * k + 18) lk hcd gd.sc gd.np gd.nl fun A outer s H E io hr hg => ?_
    have hr' : Room (6 * k + 17) (A.deeper (envOfC l.d.qual l.d.scope s.heap.objs.size (adX K l.d) cdv)) := hr.deeper _
    refine ok_Ss m (passes_of rfl) ⟨rfl, rfl, gd.sc.nd, takes_of rfl rfl rfl rfl, ?_, hg⟩ ⟨B.core X G ih _ rfl rfl rfl rfl rfl (hr'.mono (by omega)), fun _ => ⟨6 * k + 15, by omega, hr', fun Y sw hy => B.core X G ih Y sw.prog sw.w sw.K sw.mg sw.base (hy.mono (by omega))⟩, fun hlm => ?_⟩ ⟨rfl, rfl, gd.sc.kind, fun x h => ?_⟩ hm
    · have := hr.un; show A.units + 3 + 300 < _; omega
    · obtain ⟨h1, h2⟩ := B.lam f l hl hlm
      obtain ⟨c, rfl⟩ := codeIn_ref hcd
      have ea : adX K l.d = fAd K l.d.at_ := by unfold adX; rw [h2]; rfl
      rw [ea] at lk
      have ec : codeOf K l.d.at_ = c := codeOf_eq lk rfl
      have hmem : cT K l.d.at_ ∈ csOf (tf.map (·.1)) K := List.mem_map.mpr ⟨l.d.at_, List.mem_map.mpr ⟨_, h1, rfl⟩, rfl⟩
      have tbm : ((cT K l.d.at_).2, lamN l.d.qual) ∈ tabT K tf := List.mem_map.mpr ⟨_, h1, rfl⟩
      refine ⟨⟨c, (cT K l.d.at_).2, ?_, rfl, tbm, fun p hp hpe => B.uni p hp _ tbm hpe⟩⟩
      have := TB _ hmem
      rw [show (cT K l.d.at_).1 = c from ec] at this
      exact this
    · have h' : isLoc l.d.scope.names x = true := h
      refine ⟨?_, .inl rfl⟩
      unfold isLoc at h'
      split at h'
      · rename_i e'; exact .inl e'
      · rename_i e'; exact .inr e'
      · cases h'
end
end Eg
set_option Elab.async false
set_option linter.all false
set_option maxRecDepth 100000
set_option maxHeartbeats 4000000
/-! evaluating: small laws -/
namespace Eg
open PySem PySem.Spec PyProof.Rows L2
theorem natLog2_lt {n k : Nat} (h : n < 2 ^ k) (hk : 0 < k) : n.log2 < k := by
  by_cases z : n = 0
  · subst z; simpa using hk
  · exact (Nat.log2_lt z).mpr h
theorem mulOk_of {i j : Int} (a b : Nat) (ha : 0 < a) (hb : 0 < b) (hi : i.natAbs < 2 ^ a) (hj : j.natAbs < 2 ^ b) (h : a + b ≤ 1000000) : mulOk i j = true := by
  have h1 := natLog2_lt hi ha
  have h2 := natLog2_lt hj hb
  simp only [mulOk, decide_eq_true_eq]; omega
theorem divOk_of {j : Int} (a : Nat) (ha : 0 < a) (h0 : j ≠ 0) (hj : j.natAbs < 2 ^ a) (h : a ≤ 9000) : divOk j = true := by
  have h2 := natLog2_lt hj ha
  simp only [divOk, Bool.and_eq_true, decide_eq_true_eq]; exact ⟨h0, by omega⟩
theorem natAbs_lt {i : Int} {k : Nat} (h0 : 0 ≤ i) (h : i < 2 ^ k) : i.natAbs < 2 ^ k := by
  have e : ((2 ^ k : Nat) : Int) = 2 ^ k := by simp
  have e2 : ((i.natAbs : Nat) : Int) = i := Int.natAbs_of_nonneg h0
  apply Int.ofNat_lt.mp
  rw [e, e2]; exact h
@[simp] theorem varOf_none : varOf (.none) = none := rfl
@[simp] theorem varOf_cst {d} : varOf (.cst d) = none := rfl
@[simp] theorem varOf_bin {o} {a} {b} : varOf (.bin o a b) = none := rfl
@[simp] theorem varOf_neg {a} : varOf (.neg a) = none := rfl
@[simp] theorem varOf_not {a} : varOf (.not a) = none := rfl
@[simp] theorem varOf_cmp {o} {a} {b} : varOf (.cmp o a b) = none := rfl
@[simp] theorem varOf_chain {o} {p} {a} {b} {c} : varOf (.chain o p a b c) = none := rfl
@[simp] theorem varOf_and {a} {b} : varOf (.and a b) = none := rfl
@[simp] theorem varOf_or {a} {b} : varOf (.or a b) = none := rfl
@[simp] theorem varOf_ite {c} {a} {b} : varOf (.ite c a b) = none := rfl
@[simp] theorem varOf_tup {xs} : varOf (.tup xs) = none := rfl
@[simp] theorem varOf_lst {xs} : varOf (.lst xs) = none := rfl
@[simp] theorem varOf_dic {ks} {vs} : varOf (.dic ks vs) = none := rfl
@[simp] theorem varOf_call {f} {xs} : varOf (.call f xs) = none := rfl
@[simp] theorem varOf_make {f} {xs} : varOf (.make f xs) = none := rfl
@[simp] theorem varOf_mkexc {c} {a} : varOf (.mkexc c a) = none := rfl
@[simp] theorem varOf_bi {b} {xs} : varOf (.bi b xs) = none := rfl
@[simp] theorem varOf_isi {a} {c} : varOf (.isi a c) = none := rfl
@[simp] theorem varOf_fld {a} {n} : varOf (.fld a n) = none := rfl
@[simp] theorem varOf_meth {a} {n} {xs} : varOf (.meth a n xs) = none := rfl
@[simp] theorem varOf_ix {a} {i} : varOf (.ix a i) = none := rfl
@[simp] theorem varOf_sl {a} {l} {h} : varOf (.sl a l h) = none := rfl
@[simp] theorem varOf_rev {a} : varOf (.rev a) = none := rfl
@[simp] theorem varOf_pop {i} {a} : varOf (.pop i a) = none := rfl
@[simp] theorem varOf_lrng {it} : varOf (.lrng it) = none := rfl
@[simp] theorem varOf_comp {e} {tg} {it} {c} {o} : varOf (.comp e tg it c o) = none := rfl
@[simp] theorem varOf_var {i} : varOf (.var i) = some i := rfl
@[simp] theorem freezeO_ok {t : T} {ρ : Env} : freezeO (.ok t ρ) = .ok t.toD ρ := rfl
@[simp] theorem freezeO_exc {d : D} {ρ : Env} : freezeO (.exc d ρ) = .exc d ρ := rfl
@[simp] theorem bind_ok {α β : Type} {a : α} {ρ : Env} {f : α → Env → Out β} : (Out.ok a ρ).bind f = f a ρ := rfl
@[simp] theorem bind_exc {α β : Type} {d : D} {ρ : Env} {f : α → Env → Out β} : (Out.exc (α := α) d ρ).bind f = .exc d ρ := rfl
@[simp] theorem of_some {α : Type} {a : α} {ρ : Env} : Out.of ρ (some a) = .ok a ρ := rfl
@[simp] theorem sof_ok {α : Type} {a : α} {ρ : Env} {f : α → Env → SO} : SO.of (.ok a ρ) f = f a ρ := rfl
@[simp] theorem sof_exc {α : Type} {d : D} {ρ : Env} {f : α → Env → SO} : SO.of (Out.exc (α := α) d ρ) f = .exc d ρ := rfl
@[simp] theorem toD_fr {d : D} : (T.fr d).toD = d := rfl
@[simp] theorem toD_lst {ds : List D} : (T.lst (ds.map .fr)).toD = .lst ds := by rw [T.toD, toDs_fr]
@[simp] theorem toD_dic {ks : List Key} {ds : List D} : (T.dic ks (ds.map .fr)).toD = .dic ks ds := by rw [T.toD, toDs_fr]
@[simp] theorem of'_some {α : Type} {a : α} {ρ : Env} : Out.of' a (some ρ) = .ok a ρ := rfl
theorem evF_at {S : Stat} {R : D → Option Str} {n : Nat} {fns : List Fn} {k f : Nat} {fn : Fn} {args : Env} (h : fns[f]? = some fn) : evF S R n fns (k + 1) f args = evFn S R n (evF S R n fns k) fn args := by
  simp only [evF, h]
end Eg
set_option Elab.async false
set_option linter.all false
set_option maxRecDepth 100000
set_option maxHeartbeats 4000000
/-! the drawing defs that all laws share -/
namespace Eg
open PySem PySem.Spec PyProof.Rows L2
def potT (a b c : Int) : T := .lst [.fr (.int a), .fr (.int b), .fr (.int c)]
structure PotOk (n : Nat) (a b c : Int) : Prop where
  a0 : 0 ≤ a
  a1 : a < 2 ^ 1000
  b0 : 0 ≤ b
  b1 : b < 2 ^ 62
  c0 : 0 ≤ c
  c1 : c ≤ n
theorem PotOk.mono {n m : Nat} {a b c : Int} (h : PotOk n a b c) (k : n ≤ m) : PotOk m a b c := ⟨h.a0, h.a1, h.b0, h.b1, h.c0, by have := h.c1; omega⟩
def bTakeG (k1 k2 k3 k4 : Int) : Sts :=
  (.cons (.ifs (.ex (.cmp .Gt (.ix (.var 0) (.cst (.int 0))) (.cst (.int 0)))) (.cons (.asg 2 (.bin .Mod (.bi .int (.cons false (.ix (.var 0) (.cst (.int 0))) .nil)) (.var 1)))
  (.cons (.asgI 0 (.cst (.int 0)) (.bin .FloorDiv (.ix (.var 0) (.cst (.int 0))) (.var 1)))
  (.cons (.ret (.var 2))
  .nil))) .nil)
  (.cons (.asgI 0 (.cst (.int 2)) (.bin .Add (.ix (.var 0) (.cst (.int 2))) (.cst (.int 1))))
  (.cons (.asg 3 (.ix (.lst (.cons false (.cst (.int 2147483647)) (.cons false (.cst (.int 2147483629)) (.cons false (.cst (.int 2147483587)) (.cons false (.cst (.int 2147483579)) (.cons false (.cst (.int 2147483563)) .nil)))))) (.bin .Mod (.bi .int (.cons false (.ix (.var 0) (.cst (.int 2))) .nil)) (.cst (.int 5)))))
  (.cons (.asg 4 (.bin .Mod (.bi .int (.cons false (.bin .Pow (.bi .int (.cons false (.bin .Add (.bin .Add (.ix (.var 0) (.cst (.int 1))) (.bin .Mult (.bin .Mult (.cst (.int k1)) (.ix (.var 0) (.cst (.int 2)))) (.ix (.var 0) (.cst (.int 2))))) (.cst (.int k2))) .nil)) (.cst (.int 3))) .nil)) (.var 3)))
  (.cons (.asg 4 (.bin .Mod (.bi .int (.cons false (.bin .Mult (.var 4) (.bin .Add (.bin .Mod (.bi .int (.cons false (.var 4) .nil)) (.cst (.int k3))) (.bin .Mult (.cst (.int k4)) (.ix (.var 0) (.cst (.int 2)))))) .nil)) (.cst (.int 2305843009213693907))))
  (.cons (.ret (.bin .Mod (.bi .int (.cons false (.bin .FloorDiv (.var 4) (.cst (.int 137))) .nil)) (.var 1)))
  .nil))))))
section
variable {S : Stat} {R : D → Option Str} {n : Nat} {F : Nat → Env → OutF}
theorem atI_0 {α : Type} (x y z : α) : L2.atI [x, y, z] 0 = some x := rfl
theorem atI_1 {α : Type} (x y z : α) : L2.atI [x, y, z] 1 = some y := rfl
theorem atI_2 {α : Type} (x y z : α) : L2.atI [x, y, z] 2 = some z := rfl
theorem take_own {k1 k2 k3 k4 a b c u : Int} (ha : 0 < a) (hu : 0 < u) (hu2 : u < 2 ^ 1000) :
    evFn S R n F ⟨2, 5, [], bTakeG k1 k2 k3 k4⟩ [.own (potT a b c), .val (.int u)] = .ret (.fr (.int (a.fmod u))) [.own (potT (a.fdiv u) b c), .val (.int u)] := by
  have hu0 : u ≠ 0 := by omega
  have hd : divOk u = true := divOk_of 1000 (by decide) hu0 (natAbs_lt (by omega) hu2) (by decide)
  simp [evFn, evSs, evS, evC, evE, bTakeG, potT, SO.of, freezeO, Out.bind, Out.of, boundS, ixS, T.shal, frs, ixD, atD, atI_0, cmpD, T.toD, D.truth, ha, biD, T.toD, binD, hu0, hd, varOf, lookO, store, slKeep, isLstS, ownsAt, L2.ixN, finOf]
theorem pow_ok3 {i : Int} (h0 : 0 ≤ i) (h : i < 2 ^ 4000) : powOk i 3 = true := by
  have h1 := natAbs_lt h0 h
  have h2 : Builtin.Int.intBits i ≤ 4000 := intBits_le h1
  simp only [powOk, Bool.and_eq_true, decide_eq_true_eq]
  refine ⟨by decide, by omega⟩
theorem fmodB {i j : Int} (h : 0 < j) : 0 ≤ i.fmod j ∧ i.fmod j < j := ⟨Int.fmod_nonneg_of_pos _ h, Int.fmod_lt_of_pos _ h⟩
def primes : List Int := [2147483647, 2147483629, 2147483587, 2147483579, 2147483563]
theorem prime_at {i : Int} (h0 : 0 ≤ i) (h : i < 5) : ∃ p, L2.atI ([2147483647, 2147483629, 2147483587, 2147483579, 2147483563].map D.int) i = some (.int p) ∧ 0 < p ∧ p < 2 ^ 31 := by
  have : i = 0 ∨ i = 1 ∨ i = 2 ∨ i = 3 ∨ i = 4 := by omega
  rcases this with rfl | rfl | rfl | rfl | rfl
  · exact ⟨2147483647, rfl, by decide, by decide⟩
  · exact ⟨2147483629, rfl, by decide, by decide⟩
  · exact ⟨2147483587, rfl, by decide, by decide⟩
  · exact ⟨2147483579, rfl, by decide, by decide⟩
  · exact ⟨2147483563, rfl, by decide, by decide⟩
theorem take_mix {k1 k2 k3 k4 a b c u : Int} (ha : ¬ 0 < a) (hb : 0 ≤ b) (hb1 : b < 2 ^ 62) (hc : 0 ≤ c) (hc1 : c < 2 ^ 100) (hu : 0 < u) (j1 : 0 ≤ k1) (l1 : k1 < 2 ^ 30) (j2 : 0 ≤ k2) (l2 : k2 < 2 ^ 30) (j3 : 0 < k3) (l3 : k3 < 2 ^ 30) (j4 : 0 ≤ k4) (l4 : k4 < 2 ^ 30) :
    ∃ d, evFn S R n F ⟨2, 5, [], bTakeG k1 k2 k3 k4⟩ [.own (potT a b c), .val (.int u)] = .ret (.fr (.int d)) [.own (potT a b (c + 1)), .val (.int u)] ∧ 0 ≤ d ∧ d < u := by
  have hu0 : u ≠ 0 := by omega
  have m1 : mulOk k1 (c + 1) = true := mulOk_of 30 101 (by decide) (by decide) (natAbs_lt j1 l1) (natAbs_lt (by omega) (by omega)) (by decide)
  have b1 : 0 ≤ k1 * (c + 1) := Int.mul_nonneg j1 (by omega)
  have b2 : k1 * (c + 1) < 2 ^ 132 := by
    have := Int.mul_le_mul (a := k1) (b := c + 1) (c := 2 ^ 30) (d := 2 ^ 101) (by omega) (by omega) (by omega) (by decide)
    have e : (2 : Int) ^ 30 * 2 ^ 101 < 2 ^ 132 := by decide
    omega
  have m2 : mulOk (k1 * (c + 1)) (c + 1) = true := mulOk_of 132 101 (by decide) (by decide) (natAbs_lt b1 b2) (natAbs_lt (by omega) (by omega)) (by decide)
  have b3 : 0 ≤ k1 * (c + 1) * (c + 1) := Int.mul_nonneg b1 (by omega)
  have b4 : k1 * (c + 1) * (c + 1) < 2 ^ 234 := by
    have := Int.mul_le_mul (a := k1 * (c + 1)) (b := c + 1) (c := 2 ^ 132) (d := 2 ^ 101) (by omega) (by omega) (by omega) (by decide)
    have e : (2 : Int) ^ 132 * 2 ^ 101 < 2 ^ 234 := by decide
    omega
  have p0 : powOk (b + k1 * (c + 1) * (c + 1) + k2) 3 = true := by
    refine pow_ok3 (by omega) ?_
    have e : (2 : Int) ^ 240 < 2 ^ 4000 := by decide +kernel
    refine Int.lt_trans ?_ e
    omega
  have f5 := fmodB (i := c + 1) (j := 5) (by decide)
  obtain ⟨p, hp, hp0, hp1⟩ := prime_at f5.1 f5.2
  simp only [List.map] at hp
  have fm := fmodB (i := (b + k1 * (c + 1) * (c + 1) + k2) ^ 3) hp0
  generalize hx : ((b + k1 * (c + 1) * (c + 1) + k2) ^ 3).fmod p = x at fm
  have fk := fmodB (i := x) j3
  have m3 : mulOk k4 (c + 1) = true := mulOk_of 30 101 (by decide) (by decide) (natAbs_lt j4 l4) (natAbs_lt (by omega) (by omega)) (by decide)
  have b5 : 0 ≤ k4 * (c + 1) := Int.mul_nonneg j4 (by omega)
  have b6 : k4 * (c + 1) < 2 ^ 132 := by
    have := Int.mul_le_mul (a := k4) (b := c + 1) (c := 2 ^ 30) (d := 2 ^ 101) (by omega) (by omega) (by omega) (by decide)
    have e : (2 : Int) ^ 30 * 2 ^ 101 < 2 ^ 132 := by decide
    omega
  have m4 : mulOk x (x.fmod k3 + k4 * (c + 1)) = true := mulOk_of 31 133 (by decide) (by decide) (natAbs_lt fm.1 (by omega)) (natAbs_lt (by omega) (by omega)) (by decide)
  have hp' : p ≠ 0 := by omega
  have hk3 : k3 ≠ 0 := by omega
  have d137 : divOk 137 = true := by decide
  refine ⟨(((x * (x.fmod k3 + k4 * (c + 1))).fmod 2305843009213693907).fdiv 137).fmod u, ?_, (fmodB hu).1, (fmodB hu).2⟩
  · simp [evFn, evSs, evS, evC, evE, evDs, bTakeG, potT, SO.of, freezeO, Out.bind, Out.of, boundS, ixS, T.shal, frs, ixD, atD, atI_0, atI_1, atI_2, cmpD, T.toD, D.truth, ha, biD, binD, hu0, varOf, lookO, store, slKeep, isLstS, ownsAt, L2.ixN, finOf, m1, m2, p0, hp, hx, hp', hk3, m3, m4, d137, fits, T.toDs, lookV]
end
end Eg
set_option Elab.async false
set_option linter.all false
set_option maxRecDepth 100000
set_option maxHeartbeats 4000000
set_option exponentiation.threshold 5000
/-! the drawing defs that all laws share, by their promises -/
namespace Eg
open PySem PySem.Spec PyProof.Rows L2
/-- the pot's slot -/
abbrev potS (a b c : Int) : Sl := .own (potT a b c)
def TakeF (F : Nat → Env → OutF) (t : Nat) : Prop := ∀ (N : Nat) (a b c u : Int), N < 2 ^ 100 → PotOk N a b c → 0 < u → u < 2 ^ 1000 →
  ∃ d a' b' c', F t [potS a b c, .val (.int u)] = .ret (.fr (.int d)) [potS a' b' c', .val (.int u)] ∧ 0 ≤ d ∧ d < u ∧ PotOk (N + 1) a' b' c'
def OfF (F : Nat → Env → OutF) (t : Nat) : Prop := ∀ (N : Nat) (a b c : Int) (ds : List D), N < 2 ^ 100 → PotOk N a b c → ds ≠ [] → ds.length < 2 ^ 62 →
  ∃ d a' b' c', F t [potS a b c, .val (.lst ds)] = .ret (.fr d) [potS a' b' c', .val (.lst ds)] ∧ d ∈ ds ∧ PotOk (N + 1) a' b' c'
section
variable {S : Stat} {R : D → Option Str} {n : Nat} {F : Nat → Env → OutF}
theorem fdiv_le {a u : Int} (ha : 0 ≤ a) (hu : 0 < u) : 0 ≤ a.fdiv u ∧ a.fdiv u ≤ a := by
  rw [Int.fdiv_eq_ediv_of_nonneg _ (by omega)]
  exact ⟨Int.ediv_nonneg ha (by omega), Int.ediv_le_self _ ha⟩
theorem take_F {k1 k2 k3 k4 : Int} {fns : List Fn} {t k : Nat} (h : fns[t]? = some ⟨2, 5, [], bTakeG k1 k2 k3 k4⟩) (j1 : 0 ≤ k1) (l1 : k1 < 2 ^ 30) (j2 : 0 ≤ k2) (l2 : k2 < 2 ^ 30) (j3 : 0 < k3) (l3 : k3 < 2 ^ 30) (j4 : 0 ≤ k4) (l4 : k4 < 2 ^ 30) :
    TakeF (evF S R n fns (k + 1)) t := fun N a b c u hN p hu hu2 => by
  rw [evF_at h]
  by_cases ha : 0 < a
  · have q := fdiv_le p.a0 hu
    have f := fmodB (i := a) hu
    exact ⟨_, _, _, _, take_own ha hu hu2, f.1, f.2, q.1, Int.lt_of_le_of_lt q.2 p.a1, p.b0, p.b1, p.c0, by have := p.c1; omega⟩
  · obtain ⟨d, e, h1, h2⟩ := take_mix ha p.b0 p.b1 p.c0 (by have := p.c1; omega) hu j1 l1 j2 l2 j3 l3 j4 l4
    exact ⟨d, _, _, _, e, h1, h2, p.a0, p.a1, p.b0, p.b1, by have := p.c0; omega, by have := p.c1; omega⟩
def bOfG (t : Nat) : Sts := (.cons (.ret (.ix (.var 1) (.call t (.cons false (.var 0) (.cons true (.bi .len (.cons false (.var 1) .nil)) .nil))))) .nil)
theorem atI_mem {α : Type} {xs : List α} {i : Int} (h0 : 0 ≤ i) (h : i < xs.length) : ∃ x, L2.atI xs i = some x ∧ x ∈ xs := by
  obtain ⟨m, rfl⟩ := Int.eq_ofNat_of_zero_le h0
  have hm : m < xs.length := by omega
  refine ⟨xs[m], ?_, List.getElem_mem hm⟩
  simp [L2.atI, L2.ixN, hm]
theorem of_F {t o k : Nat} {fns : List Fn} (h : fns[o]? = some ⟨2, 2, [], bOfG t⟩) (ht : TakeF (evF S R n fns k) t) : OfF (evF S R n fns (k + 1)) o := fun N a b c ds hN p hd hl => by
  rw [evF_at h]
  have hl0 : 0 < ds.length := List.length_pos_iff.mpr hd
  obtain ⟨d, a', b', c', e, h1, h2, p'⟩ := ht N a b c ds.length hN p (by omega) (by omega)
  obtain ⟨x, hx, hm⟩ := atI_mem h1 h2
  refine ⟨x, a', b', c', ?_, hm, p'⟩
  have e' : evF S R n fns k t [Sl.own (T.lst [.fr (.int a), .fr (.int b), .fr (.int c)]), .val (.int ds.length)] = .ret (.fr (.int d)) [Sl.own (T.lst [.fr (.int a'), .fr (.int b'), .fr (.int c')]), .val (.int ds.length)] := e
  simp [evFn, evSs, evS, evE, evAs, bOfG, potS, potT, SO.of, freezeO, Out.bind, Out.of, boundS, ixS, ixD, atD, T.shal, T.toD, biD, varOf, lookO, lookV, lenD, callF, arSl, e', Out.of', backAr, hx, ownsAt, finOf]
def bPotG (q1 q2 q3 q4 q5 : Int) : Sts :=
  (.cons (.asg 2 (.ite (.ex (.cmp .Lt (.var 1) (.bi .len (.cons false (.var 0) .nil)))) (.ix (.var 0) (.var 1)) (.bin .Add (.bin .Mult (.cst (.int q1)) (.var 1)) (.cst (.int q2)))))
  (.cons (.asg 3 (.bin .Mult (.bin .Mod (.bi .int (.cons false (.bi .abs (.cons false (.var 2) .nil)) .nil)) (.bin .Pow (.bin .Pow (.cst (.int 10)) (.cst (.int 60))) (.cst (.int 5)))) (.bi .int (.cons false (.cmp .GtE (.bi .abs (.cons false (.var 2) .nil)) (.bin .Pow (.cst (.int 10)) (.cst (.int 18)))) .nil))))
  (.cons (.asg 4 (.bin .Mod (.bi .int (.cons false (.var 2) .nil)) (.cst (.int 2305843009213693951))))
  (.cons (.ret (.lst (.cons false (.var 3) (.cons false (.bin .Mod (.bi .int (.cons false (.bin .Add (.bin .Add (.bin .Mult (.var 4) (.cst (.int q3))) (.bin .Mult (.bin .Mult (.cst (.int q4)) (.var 1)) (.var 1))) (.cst (.int q5))) .nil)) (.cst (.int 2305843009213693921))) (.cons false (.cst (.int 0)) .nil)))))
  .nil))))
theorem pow60 : (10 : Int) ^ 60 = 1000000000000000000000000000000000000000000000000000000000000 := by decide +kernel
/-- what a pot's draws come from: its cell -/
theorem pot_cell {q1 q2 q3 q4 q5 : Int} {ns : List Int} {i : Int} {fns : List Fn} {t k : Nat} (h : fns[t]? = some ⟨2, 5, [], bPotG q1 q2 q3 q4 q5⟩) (hi : 0 ≤ i) (hi2 : i < 2 ^ 20) (hl : ns.length < 2 ^ 20) (j1 : 0 ≤ q1) (l1 : q1 < 2 ^ 30) (j3 : 0 ≤ q3) (l3 : q3 < 2 ^ 30) (j4 : 0 ≤ q4) (l4 : q4 < 2 ^ 30) :
    ∃ a b c, evF S R n fns (k + 1) t [.val (.lst (ns.map .int)), .val (.int i)] = .ret (potT a b c) [.val (.lst (ns.map .int)), .val (.int i)] ∧ PotOk 0 a b c := by
  rw [evF_at h]
  have m1 : mulOk q1 i = true := mulOk_of 30 20 (by decide) (by decide) (natAbs_lt j1 l1) (natAbs_lt hi hi2) (by decide)
  have m4 : mulOk q4 i = true := mulOk_of 30 20 (by decide) (by decide) (natAbs_lt j4 l4) (natAbs_lt hi hi2) (by decide)
  have b1 : 0 ≤ q4 * i := Int.mul_nonneg j4 hi
  have b2 : q4 * i < 2 ^ 60 := by
    have := Int.mul_le_mul (a := q4) (b := i) (c := 2 ^ 30) (d := 2 ^ 20) (by omega) (by omega) (by omega) (by decide)
    have e : (2 : Int) ^ 30 * 2 ^ 20 < 2 ^ 60 := by decide
    omega
  have m5 : mulOk (q4 * i) i = true := mulOk_of 60 20 (by decide) (by decide) (natAbs_lt b1 b2) (natAbs_lt hi hi2) (by decide)
  have cell : ∃ x : Int, (if i < (ns.length : Int) then (atD (ns.map .int) i).map T.fr else some (.fr (.int (q1 * i + q2)))) = some (.fr (.int x)) := by
    by_cases z : i < (ns.length : Int)
    · obtain ⟨x, hx, _⟩ := atI_mem (xs := ns) hi z
      refine ⟨x, ?_⟩
      have : L2.atI (ns.map D.int) i = some (.int x) := by
        simp only [L2.atI, List.length_map] at hx ⊢
        cases e : L2.ixN ns.length i with
        | none => rw [e] at hx; simp at hx
        | some j => rw [e] at hx; simp at hx ⊢; simp [hx]
      simp [z, atD, this]
    · exact ⟨q1 * i + q2, by simp [z]⟩
  obtain ⟨x, hx⟩ := cell
  have hp1 : powOk 10 60 = true := by decide +kernel
  have hp2 : powOk 1000000000000000000000000000000000000000000000000000000000000 5 = true := by decide +kernel
  have hp3 : powOk 10 18 = true := by decide +kernel
  have hM : (0 : Int) < 1000000000000000000000000000000000000000000000000000000000000 ^ 5 := by decide +kernel
  have hM0 : (1000000000000000000000000000000000000000000000000000000000000 : Int) ^ 5 ≠ 0 := by decide +kernel
  have hM1 : (1000000000000000000000000000000000000000000000000000000000000 : Int) ^ 5 < 2 ^ 998 := by decide +kernel
  generalize hMM : (1000000000000000000000000000000000000000000000000000000000000 : Int) ^ 5 = M at hM hM0 hM1
  have fm := fmodB (i := if x < 0 then -x else x) hM
  have fs := fmodB (i := x) (j := 2305843009213693951) (by decide)
  generalize hg : (if x < 0 then -x else x).fmod M = g at fm
  have m6 : ∀ (b : Prop) [Decidable b], mulOk g (if b then 1 else 0) = true := fun b _ => mulOk_of 998 2 (by decide) (by decide) (natAbs_lt fm.1 (by omega)) (by split <;> decide) (by decide)
  have m7 : mulOk (x.fmod 2305843009213693951) q3 = true := mulOk_of 62 30 (by decide) (by decide) (natAbs_lt fs.1 (by omega)) (natAbs_lt j3 l3) (by decide)
  have fb := fmodB (i := x.fmod 2305843009213693951 * q3 + q4 * i * i + q5) (j := 2305843009213693921) (by decide)
  have step : evE S R (evF S R n fns k) (.ite (.ex (.cmp .Lt (.var 1) (.bi .len (.cons false (.var 0) .nil)))) (.ix (.var 0) (.var 1)) (.bin .Add (.bin .Mult (.cst (.int q1)) (.var 1)) (.cst (.int q2)))) [.val (.lst (ns.map .int)), .val (.int i), .unb, .unb, .unb] = .ok (.fr (.int x)) [.val (.lst (ns.map .int)), .val (.int i), .unb, .unb, .unb] := by
    simp only [evE, evC, lookO, varOf, biD, freezeO, Out.bind, Out.of, T.toD, T.shal, Option.bind, lookV, List.getElem?_cons_zero, List.getElem?_cons_succ, lenD, Option.map, List.length_map, cmpD, D.truth]
    by_cases z : i < (ns.length : Int)
    · simp only [z, if_true] at hx
      simp [z, boundS, ixS, ixD, Out.of, hx]
    · simp only [z, if_false] at hx
      simp only [z, decide_false, Bool.false_eq_true, if_false, binD, m1, if_true, freezeO, T.toD, Out.bind, Out.of]
      cases hx; rfl
  refine ⟨g * (if decide (10 ^ 18 ≤ if x < 0 then -x else x) = true then 1 else 0), (x.fmod 2305843009213693951 * q3 + q4 * i * i + q5).fmod 2305843009213693921, 0, ?_, ?_⟩
  · simp only [evFn, bPotG, evSs, evS, List.length_cons, List.length_nil, Nat.reduceAdd, if_true, SO.of, List.replicate, List.cons_append, List.nil_append, ownsAt, Nat.reduceSub]
    rw [step]
    simp [SO.of, store, slKeep, evE, evDs, T.toD, biD, freezeO, Out.bind, Out.of, binD, lookO, varOf, lookV, T.shal, cmpD, pow60, hp1, hp2, hp3, hMM, hM0, hg, m6, m7, m4, m5, fits, finOf, potT]
  · exact ⟨by cases decide (10 ^ 18 ≤ if x < 0 then -x else x) <;> simp <;> omega, by cases decide (10 ^ 18 ≤ if x < 0 then -x else x) <;> simp <;> omega, fb.1, by omega, by decide, by decide⟩
end
end Eg
set_option Elab.async false
set_option linter.all false
set_option maxRecDepth 100000
set_option maxHeartbeats 8000000
namespace Eg
open PySem PySem.Spec PyProof.Rows L2
open He hiding SaysX obsX valX saysX_of AlX hookX
/-! ### a law's text by places -/
def cdX (n : Nat) (nm : Str) (isX : Bool) (fl : List Str) (an : List Nat) (props : List (Nat × Nat) := []) (init : Option Nat := none) : CD := ⟨nm, isX, fl, (List.range n).map fun j => an.contains j, tgNs.map fun s => isX && s == "ValueError", props, init⟩
def locsOf (sc : Scope) : List Str := (sc.names.filter fun p => match p.2 with
  | .local => true
  | .cell => true
  | _ => false).map (·.1)
def parsOf (a : Arguments) : List Str := a.args.map (·.arg)
def irOf (gt : Gt) (st : Stmt) (ex : List Str) : Option Sts := cSs gt ⟨locsOf (defScope st) ++ ex, (defScope st).names, (defScope st).names⟩ 400 (defBody st)
def ldX (gt : Gt) (st : Stmt) (at_ : Str × Option Str) (name qual : Str) (ex kpn : List Str) (prop lam : Bool) : LDef :=
  ⟨⟨at_, name, qual, defArgs st, defBody st, defScope st, [], prop⟩, locsOf (defScope st) ++ ex, parsOf (defArgs st),
    ⟨(parsOf (defArgs st)).length, (locsOf (defScope st) ++ ex).length, kpn.filterMap (fun x => ixOf x (locsOf (defScope st) ++ ex)), (irOf { gt with lam := lam } st ex).getD .nil⟩, lam⟩
/-! ### what was not compiled -/
mutual
def bdE : Ex → Bool
  | .bad => true
  | .bin _ a b => bdE a || bdE b
  | .neg a => bdE a
  | .not a => bdE a
  | .cmp _ a b => bdE a || bdE b
  | .chain _ _ a b c => bdE a || bdE b || bdE c
  | .and a b => bdE a || bdE b
  | .or a b => bdE a || bdE b
  | .ite c a b => bdC c || bdE a || bdE b
  | .tup xs => bdEs xs
  | .lst xs => bdEs xs
  | .dic _ xs => bdEs xs
  | .dicS a b c => bdE a || bdE b || bdE c
  | .call _ xs => bdEs xs
  | .make _ xs => bdEs xs
  | .mkexc _ a => bdE a
  | .bi _ xs => bdEs xs
  | .isi a _ => bdE a
  | .fld a _ => bdE a
  | .meth a _ xs => bdE a || bdEs xs
  | .ix a b => bdE a || bdE b
  | .sl a b c => bdE a || bdE b || bdE c
  | .rev a => bdE a
  | .pop _ a => bdE a
  | .fstr xs => bdEs xs
  | .lrng it => bdI it
  | .comp e _ it c _ => bdE e || bdI it || bdC c
  | .m1 _ a b => bdE a || bdE b
  | .m2 _ a b c => bdE a || bdE b || bdE c
  | .told _ e => bdE e
  | _ => false
def bdEs : Exs → Bool
  | .nil => false
  | .cons _ e r => bdE e || bdEs r
def bdI : It → Bool
  | .seq e => bdE e
  | .rng1 a => bdE a
  | .rng2 a b => bdE a || bdE b
  | .enum a => bdE a
  | .zip2 a b => bdE a || bdE b
  | .zip3 a b c => bdE a || bdE b || bdE c
  | .items a => bdE a
def bdC : Cn → Bool
  | .tt => false
  | .ex e => bdE e
  | .not c => bdC c
  | .and a b => bdC a || bdC b
  | .or a b => bdC a || bdC b
end
mutual
def bdS : St → Bool
  | .bad => true
  | .asg _ e => bdE e
  | .asgT _ e => bdE e
  | .par _ es => bdEs es
  | .asgI _ a b => bdE a || bdE b
  | .asgF _ _ e => bdE e
  | .expr e => bdE e
  | .app _ e => bdE e
  | .ext _ e => bdE e
  | .ret e => bdE e
  | .ifs c a b => bdC c || bdSs a || bdSs b
  | .for_ _ it b => bdI it || bdSs b
  | .while_ c b => bdC c || bdSs b
  | .raise _ e => bdE e
  | .asgTF _ _ e => bdE e
  | _ => false
def bdSs : Sts → Bool
  | .nil => false
  | .cons s r => bdS s || bdSs r
end
/-- the places of a def's statements that are not compiled whole -/
def badAt : Nat → Sts → List Nat
  | _, .nil => []
  | i, .cons s r => (if bdS s then [i] else []) ++ badAt (i + 1) r
theorem good_of {gt : Gt} {st : Stmt} {at_ : Str × Option Str} {name qual : Str} {ex kpn : List Str} {prop lam : Bool} (l : LDef) (e : l = ldX gt st at_ name qual ex kpn prop lam) (h1 : (irOf { gt with lam := lam } st ex).isSome = true) (sc : FnScope l.N l.ps l.d.scope)
    (bnd : ∀ (kV doc pm : Value) (an : Option Addr) (cdv ct : Value) (us : List Value), us.length = l.ps.length → bindArgs (PySem.W.fnOf l.d.name l.d.qual l.d.params l.d.body l.d.scope .none kV doc pm an cdv ct) ⟨us, []⟩ = pure (l.ps.zip us)) : l.Good gt := by
  subst e
  refine ⟨sc, rfl, rfl, ⟨400, ?_⟩, rfl, bnd⟩
  obtain ⟨ir, hir⟩ := Option.isSome_iff_exists.mp h1
  show irOf { gt with lam := lam } st ex = some ((irOf { gt with lam := lam } st ex).getD .nil)
  rw [hir]
  rfl
end Eg
set_option Elab.async false
set_option linter.all false
set_option maxRecDepth 100000
set_option maxHeartbeats 0
namespace L05
open PySem PySem.Spec PyProof.Rows L2
open He hiding SaysX obsX valX saysX_of AlX hookX
open Eg
abbrev pw : Program := PySem.Challenge.pw_unseenstocks_k05_rows_and_their_standing
def top (i : Nat) : Stmt := pw.main.body.getD i (.Pass ⟨0, 0, 0, 0⟩)
def cs : List CD := [cdX 7 "StockError" true [] [0], cdX 7 "BadBook" true [] [0, 1], cdX 7 "NoJob" true [] [0, 2], cdX 7 "Full" true [] [0, 3], cdX 7 "OtherJobs" true [] [0, 4], cdX 7 "BadRow" true [] [0, 5], cdX 7 "Book" false ["_jobs", "_manners", "_facts", "_text"] [6] [(5, 14)] (some 13)]
def gs0 : List (Str × Gk) := [("is_tuple", .fn 0), ("is_word", .fn 1), ("is_name", .fn 2), ("number_in", .fn 3), ("are_unlike", .fn 4), ("is_standing", .fn 5), ("is_fact", .fn 6), ("jobs_in", .fn 7)]
def gs1 : List (Str × Gk) := [("standing_in", .fn 8), ("fact_in", .fn 9), ("first_full", .fn 10), ("taken", .fn 11), ("read", .fn 12), ("is_event", .fn 15), ("can_come", .fn 16), ("behind", .fn 17)]
def gs2 : List (Str × Gk) := [("walked", .fn 18), ("standings", .fn 19), ("_law_pot", .fn 20), ("_law_take", .fn 21), ("_law_of", .fn 22), ("_law_some", .fn 23), ("_law_cells", .fn 24), ("_law_odd", .fn 25)]
def gs3 : List (Str × Gk) := [("_law_bent", .fn 26), ("_law_names", .fn 27), ("_law_jobs", .fn 28), ("_law_any_manners", .fn 29), ("_law_first", .fn 30), ("_law_is_event", .fn 31), ("_law_behind", .fn 32), ("_law_can_come", .fn 33)]
def gs4 : List (Str × Gk) := [("_law_events", .fn 34), ("_law_is_row", .fn 35), ("_law_standings", .fn 36), ("_law_row", .fn 37), ("_law_standing_text", .fn 38), ("_law_fact_line", .fn 39), ("_law_lines", .fn 40), ("_law_text", .fn 41)]
def gs5 : List (Str × Gk) := [("_law_book", .fn 42), ("_law_long_row", .fn 43), ("_law_near", .fn 44), ("_law_right", .fn 45), ("_law_told", .told 0), ("StockError", .exc 0), ("BadBook", .exc 1), ("NoJob", .exc 2)]
def gs6 : List (Str × Gk) := [("Full", .exc 3), ("OtherJobs", .exc 4), ("BadRow", .exc 5), ("Book", .cls 6), ("LETTERS", .cst (.str "abcdefghijklmnopqrstuvwxyz")), ("FIGURES", .cst (.str "0123456789")), ("BLANK", .cst (.str " ")), ("FEED", .cst (.str "\n"))]
def gs7 : List (Str × Gk) := [("MOST_SIGNS", .cst (.int 8)), ("MOST_FIGURES", .cst (.int 15)), ("JOBS", .cst (.str "jobs")), ("MANNERS", .cst (.tup [(.str "clean"), (.str "spent"), (.str "free")])), ("LET", .cst (.str "let")), ("NOT", .cst (.str "not")), ("AS", .cst (.str "as")), ("TO", .cst (.str "to"))]
def gs8 : List (Str × Gk) := [("MOST_JOBS", .cst (.int 4)), ("MOST_TIMES", .cst (.int 40)), ("PAIR_books", .cst (.int 2)), ("TRIPLE", .cst (.int 3)), ("BEGIN", .cst (.str "begin")), ("END", .cst (.str "end")), ("MOST_EVENTS", .cst (.int 24)), ("PAIR_days", .cst (.int 2))]
def gs : List (Str × Gk) := gs0 ++ gs1 ++ gs2 ++ gs3 ++ gs4 ++ gs5 ++ gs6 ++ gs7 ++ gs8
def nms : List Str := ["value", "_jobs", "_manners", "_facts", "_text", "jobs"]
def ow : List (List Bool) := [[], [], [], [], [], [], [], [], [], [], [], [], [], [true], [], []] ++ [[], [], [], [], [], [true], [true], [true], [], [true], [true], [true], [true], [], [], []] ++ [[], [], [], [], [], [true], [], [], [], [], [], [true], [true], [true], []]
def mks : List Bool := [false, false, false, false, false, false, true]
def names0 : List Str := ["_wall", "StockError", "BadBook", "NoJob", "Full", "OtherJobs", "BadRow", "LETTERS"]
def names1 : List Str := ["FIGURES", "BLANK", "FEED", "MOST_SIGNS", "MOST_FIGURES", "is_integer", "is_tuple", "is_word"]
def names2 : List Str := ["is_name", "number_in", "are_unlike", "JOBS", "PLAIN", "CLEAN", "SPENT", "FREE"]
def names3 : List Str := ["MANNERS", "LET", "NOT", "AS", "TO", "MOST_FACTS", "MOST_JOBS", "MOST_TIMES"]
def names4 : List Str := ["PAIR_books", "TRIPLE", "is_standing", "is_fact", "jobs_in", "standing_in", "fact_in", "standing_words"]
def names5 : List Str := ["fact_line", "text_of", "first_full", "taken", "read", "Book", "BEGIN", "END"]
def names6 : List Str := ["MOST_EVENTS", "PAIR_days", "is_event", "can_come", "behind", "walked", "standings", "_law_pot"]
def names7 : List Str := ["_law_take", "_law_of", "_law_some", "_law_cells", "_law_told", "_law_odd", "_law_bent", "_law_names"]
def names8 : List Str := ["_law_jobs", "_law_any_manners", "_law_first", "_law_is_event", "_law_behind", "_law_can_come", "_law_events", "_law_is_row"]
def names9 : List Str := ["_law_standings", "_law_row", "_law_standing_text", "_law_fact_line", "_law_lines", "_law_text", "_law_book", "_law_long_row"]
def names10 : List Str := ["_law_near", "_law_right"]
def names : List Str := names0 ++ names1 ++ names2 ++ names3 ++ names4 ++ names5 ++ names6 ++ names7 ++ names8 ++ names9 ++ names10
def gt : Gt := ⟨gs, nms, ow, mks, false⟩
/- left out: [('f', 'is_integer'), ('f', '_law_told')]; constants: ['MOST_FACTS'] -/
def dIsTuple : LDef := ldX gt (top 16) ("is_tuple", none) "is_tuple" "is_tuple" [] [] false false
def dIsWord : LDef := ldX gt (top 17) ("is_word", none) "is_word" "is_word" [] [] false false
def dIsName : LDef := ldX gt (top 18) ("is_name", none) "is_name" "is_name" ["sign"] [] false false
def dNumberIn : LDef := ldX gt (top 19) ("number_in", none) "number_in" "number_in" ["sign"] [] false false
def dAreUnlike : LDef := ldX gt (top 20) ("are_unlike", none) "are_unlike" "are_unlike" ["number", "one"] [] false false
def dIsStanding : LDef := ldX gt (top 37) ("is_standing", none) "is_standing" "is_standing" ["pair", "begun", "ended"] [] false false
def dIsFact : LDef := ldX gt (top 38) ("is_fact", none) "is_fact" "is_fact" ["some"] [] false false
def dJobsIn : LDef := ldX gt (top 39) ("jobs_in", none) "jobs_in" "jobs_in" ["name"] [] false false
def dStandingIn : LDef := ldX gt (top 40) ("standing_in", none) "standing_in" "standing_in" ["word", "at"] [] false false
def dFactIn : LDef := ldX gt (top 41) ("fact_in", none) "fact_in" "fact_in" [] [] false false
def dFirstFull : LDef := ldX gt (top 45) ("first_full", none) "first_full" "first_full" ["one"] [] false false
def dTaken : LDef := ldX gt (top 46) ("taken", none) "taken" "taken" [] [] false false
def dRead : LDef := ldX gt (top 47) ("read", none) "read" "read" [] [] false false
def dBookInit : LDef := ldX gt (inClass (top 48) 0) ("Book", some "__init__") "__init__" "Book.__init__" [] [] false false
def dBookJobs : LDef := ldX gt (inClass (top 48) 2) ("Book", some "jobs") "jobs" "Book.jobs" [] [] true false
def dIsEvent : LDef := ldX gt (top 54) ("is_event", none) "is_event" "is_event" [] [] false false
def dCanCome : LDef := ldX gt (top 55) ("can_come", none) "can_come" "can_come" [] [] false false
def dBehind : LDef := ldX gt (top 56) ("behind", none) "behind" "behind" [] [] false false
def dWalked : LDef := ldX gt (top 57) ("walked", none) "walked" "walked" ["job"] ["found"] false false
def dStandings : LDef := ldX gt (top 58) ("standings", none) "standings" "standings" [] [] false false
def dLawPot : LDef := ldX gt (top 60) ("_law_pot", none) "_law_pot" "_law_pot" [] [] false false
def dLawTake : LDef := ldX gt (top 61) ("_law_take", none) "_law_take" "_law_take" [] [] false false
def dLawOf : LDef := ldX gt (top 62) ("_law_of", none) "_law_of" "_law_of" [] [] false false
def dLawSome : LDef := ldX gt (top 63) ("_law_some", none) "_law_some" "_law_some" [] ["_law_found", "_law_left"] false false
def dLawCells : LDef := ldX gt (top 64) ("_law_cells", none) "_law_cells" "_law_cells" [] [] false false
def dLawOdd : LDef := ldX gt (top 66) ("_law_odd", none) "_law_odd" "_law_odd" [] [] false false
def dLawBent : LDef := ldX gt (top 67) ("_law_bent", none) "_law_bent" "_law_bent" [] [] false false
def dLawNames : LDef := ldX gt (top 68) ("_law_names", none) "_law_names" "_law_names" [] [] false false
def dLawJobs : LDef := ldX gt (top 69) ("_law_jobs", none) "_law_jobs" "_law_jobs" ["_law_name"] [] false false
def dLawAnyManners : LDef := ldX gt (top 70) ("_law_any_manners", none) "_law_any_manners" "_law_any_manners" [] [] false false
def dLawFirst : LDef := ldX gt (top 71) ("_law_first", none) "_law_first" "_law_first" ["_law_job"] [] false false
def dLawIsEvent : LDef := ldX gt (top 72) ("_law_is_event", none) "_law_is_event" "_law_is_event" ["_law_part", "_law_name", "_law_manner"] [] false false
def dLawBehind : LDef := ldX gt (top 73) ("_law_behind", none) "_law_behind" "_law_behind" ["_law_name", "_law_manner"] [] false false
def dLawCanCome : LDef := ldX gt (top 74) ("_law_can_come", none) "_law_can_come" "_law_can_come" ["_law_begun", "_law_ended"] [] false false
def dLawEvents : LDef := ldX gt (top 75) ("_law_events", none) "_law_events" "_law_events" ["_law_event"] ["_law_some_here"] false false
def dLawIsRow : LDef := ldX gt (top 76) ("_law_is_row", none) "_law_is_row" "_law_is_row" [] [] false false
def dLawStandings : LDef := ldX gt (top 77) ("_law_standings", none) "_law_standings" "_law_standings" [] ["_law_found"] false false
def dLawRow : LDef := ldX gt (top 78) ("_law_row", none) "_law_row" "_law_row" [] ["_law_row_here"] false false
def dLawStandingText : LDef := ldX gt (top 79) ("_law_standing_text", none) "_law_standing_text" "_law_standing_text" ["_law_begun", "_law_ended"] [] false false
def dLawFactLine : LDef := ldX gt (top 80) ("_law_fact_line", none) "_law_fact_line" "_law_fact_line" [] [] false false
def dLawLines : LDef := ldX gt (top 81) ("_law_lines", none) "_law_lines" "_law_lines" ["_law_name", "_law_manner", "_law_fact"] ["_law_found"] false false
def dLawText : LDef := ldX gt (top 82) ("_law_text", none) "_law_text" "_law_text" [] [] false false
def dLawBook : LDef := ldX gt (top 83) ("_law_book", none) "_law_book" "_law_book" [] [] false false
def dLawLongRow : LDef := ldX gt (top 84) ("_law_long_row", none) "_law_long_row" "_law_long_row" [] ["_law_row_here"] false false
def dLawNear : LDef := ldX gt (top 85) ("_law_near", none) "_law_near" "_law_near" ["_law_lap"] ["_law_found"] false false
def dLawRight : LDef := ldX gt (top 86) ("_law_right", none) "_law_right" "_law_right" [] [] false true
def dLaw : LDef := ldX gt (top 87) ("law", none) "law" "law" ["_law_lap"] ["_law_pot_here"] false false
def defs : List LDef := [dIsTuple, dIsWord, dIsName, dNumberIn, dAreUnlike, dIsStanding, dIsFact, dJobsIn] ++ [dStandingIn, dFactIn, dFirstFull, dTaken, dRead, dBookInit, dBookJobs, dIsEvent] ++ [dCanCome, dBehind, dWalked, dStandings, dLawPot, dLawTake, dLawOf, dLawSome] ++ [dLawCells, dLawOdd, dLawBent, dLawNames, dLawJobs, dLawAnyManners, dLawFirst, dLawIsEvent] ++ [dLawBehind, dLawCanCome, dLawEvents, dLawIsRow, dLawStandings, dLawRow, dLawStandingText, dLawFactLine] ++ [dLawLines, dLawText, dLawBook, dLawLongRow, dLawNear, dLawRight, dLaw]
end L05
set_option Elab.async false
set_option linter.all false
set_option maxRecDepth 100000
set_option maxHeartbeats 0
namespace L05
open PySem PySem.Spec PyProof.Rows L2
open He hiding SaysX obsX valX saysX_of AlX hookX
open Eg
def sInit : Stmt := L2.inClass (top 2) 0
def dInit : DefX := ⟨("StockError", some "__init__"), "__init__", "StockError.__init__", defArgs sInit, xBody 8, xScope, ["__class__"], false⟩
def dTold : DefX := ⟨("_law_told", none), "_law_told", "_law_told", defArgs (top 65), defBody (top 65), defScope (top 65), [], false⟩
def tf : List (Defn × Str) := [(("_law_right", none), "_law_right")]
def fnl : List DefX := dInit :: dTold :: defs.map (·.d)
def chk (K : PySem.W.Frag) : Bool := chkX cs nms gs K && ((xgB pw K && cs.all fun d => if d.isX then xcB K (ga K d.name) else true) && (Fa.glo "law").ok K)
abbrev R : PySem.W.OpenRow := PySem.W.OpenLaw.row PySem.Challenge.rw_unseenstocks_k05_rows_and_their_standing
abbrev hk : PySem.W.Hook := hookX 5 chk fnl (tf.map (·.1))
def ob (s : PySem.W.SharedT) : AlX × Bool := obsXG 5 chk fnl (tf.map (·.1)) (HandSHeadRun.getT s)
theorem ob_eq (s : PySem.W.SharedT) : ob s = hk.obs s.abs := obsXG_eq (HandSHeadRun.getT_eq s)
end L05
set_option Elab.async false
set_option linter.all false
set_option maxRecDepth 100000
set_option maxHeartbeats 0
namespace L05
open PySem PySem.Spec PyProof.Rows L2
open He hiding SaysX obsX valX saysX_of AlX hookX
open Eg
theorem run0 (w : World) : HandSHeadRun.RunEq R (PySem.W.view R.prog [87]) hk ob 20000 names (w.withFollow "special-get-raises" false) := by
  intro os
  kernel_rfl
theorem run1 (w : World) : HandSHeadRun.RunEq R (PySem.W.view R.prog [87]) hk ob 20000 names (w.withFollow "special-get-raises" true) := by
  intro os
  kernel_rfl
theorem run (w : World) : HandSHeadRun.RunEq R (PySem.W.view R.prog [87]) hk ob 20000 names w := PySem.W.byRow2 "special-get-raises" run0 run1 w
end L05
set_option Elab.async false
set_option linter.all false
set_option maxRecDepth 100000
set_option maxHeartbeats 0
namespace L05
open PySem PySem.Spec PyProof.Rows L2
open He hiding SaysX obsX valX saysX_of AlX hookX
open Eg
theorem g0 : dIsTuple.Good gt := good_of dIsTuple rfl (by decide +kernel) ⟨by kernel_rfl, by kernel_rfl, by kernel_rfl, by decide +kernel, by kernel_rfl, by decide +kernel, by decide +kernel⟩ fun _ _ _ _ _ _ us hl => match us, hl with | [_, _], _ => by kernel_rfl
theorem g1 : dIsWord.Good gt := good_of dIsWord rfl (by decide +kernel) ⟨by kernel_rfl, by kernel_rfl, by kernel_rfl, by decide +kernel, by kernel_rfl, by decide +kernel, by decide +kernel⟩ fun _ _ _ _ _ _ us hl => match us, hl with | [_, _], _ => by kernel_rfl
theorem g2 : dIsName.Good gt := good_of dIsName rfl (by decide +kernel) ⟨by kernel_rfl, by kernel_rfl, by kernel_rfl, by decide +kernel, by kernel_rfl, by decide +kernel, by decide +kernel⟩ fun _ _ _ _ _ _ us hl => match us, hl with | [_], _ => by kernel_rfl
theorem g3 : dNumberIn.Good gt := good_of dNumberIn rfl (by decide +kernel) ⟨by kernel_rfl, by kernel_rfl, by kernel_rfl, by decide +kernel, by kernel_rfl, by decide +kernel, by decide +kernel⟩ fun _ _ _ _ _ _ us hl => match us, hl with | [_], _ => by kernel_rfl
theorem g4 : dAreUnlike.Good gt := good_of dAreUnlike rfl (by decide +kernel) ⟨by kernel_rfl, by kernel_rfl, by kernel_rfl, by decide +kernel, by kernel_rfl, by decide +kernel, by decide +kernel⟩ fun _ _ _ _ _ _ us hl => match us, hl with | [_], _ => by kernel_rfl
theorem g5 : dIsStanding.Good gt := good_of dIsStanding rfl (by decide +kernel) ⟨by kernel_rfl, by kernel_rfl, by kernel_rfl, by decide +kernel, by kernel_rfl, by decide +kernel, by decide +kernel⟩ fun _ _ _ _ _ _ us hl => match us, hl with | [_, _], _ => by kernel_rfl
theorem g6 : dIsFact.Good gt := good_of dIsFact rfl (by decide +kernel) ⟨by kernel_rfl, by kernel_rfl, by kernel_rfl, by decide +kernel, by kernel_rfl, by decide +kernel, by decide +kernel⟩ fun _ _ _ _ _ _ us hl => match us, hl with | [_, _], _ => by kernel_rfl
theorem g7 : dJobsIn.Good gt := good_of dJobsIn rfl (by decide +kernel) ⟨by kernel_rfl, by kernel_rfl, by kernel_rfl, by decide +kernel, by kernel_rfl, by decide +kernel, by decide +kernel⟩ fun _ _ _ _ _ _ us hl => match us, hl with | [_], _ => by kernel_rfl
theorem g8 : dStandingIn.Good gt := good_of dStandingIn rfl (by decide +kernel) ⟨by kernel_rfl, by kernel_rfl, by kernel_rfl, by decide +kernel, by kernel_rfl, by decide +kernel, by decide +kernel⟩ fun _ _ _ _ _ _ us hl => match us, hl with | [_, _], _ => by kernel_rfl
theorem g9 : dFactIn.Good gt := good_of dFactIn rfl (by decide +kernel) ⟨by kernel_rfl, by kernel_rfl, by kernel_rfl, by decide +kernel, by kernel_rfl, by decide +kernel, by decide +kernel⟩ fun _ _ _ _ _ _ us hl => match us, hl with | [_, _], _ => by kernel_rfl
theorem g10 : dFirstFull.Good gt := good_of dFirstFull rfl (by decide +kernel) ⟨by kernel_rfl, by kernel_rfl, by kernel_rfl, by decide +kernel, by kernel_rfl, by decide +kernel, by decide +kernel⟩ fun _ _ _ _ _ _ us hl => match us, hl with | [_], _ => by kernel_rfl
theorem g11 : dTaken.Good gt := good_of dTaken rfl (by decide +kernel) ⟨by kernel_rfl, by kernel_rfl, by kernel_rfl, by decide +kernel, by kernel_rfl, by decide +kernel, by decide +kernel⟩ fun _ _ _ _ _ _ us hl => match us, hl with | [_, _, _, _], _ => by kernel_rfl
theorem g12 : dRead.Good gt := good_of dRead rfl (by decide +kernel) ⟨by kernel_rfl, by kernel_rfl, by kernel_rfl, by decide +kernel, by kernel_rfl, by decide +kernel, by decide +kernel⟩ fun _ _ _ _ _ _ us hl => match us, hl with | [_], _ => by kernel_rfl
theorem g13 : dBookInit.Good gt := good_of dBookInit rfl (by decide +kernel) ⟨by kernel_rfl, by kernel_rfl, by kernel_rfl, by decide +kernel, by kernel_rfl, by decide +kernel, by decide +kernel⟩ fun _ _ _ _ _ _ us hl => match us, hl with | [_, _], _ => by kernel_rfl
theorem g14 : dBookJobs.Good gt := good_of dBookJobs rfl (by decide +kernel) ⟨by kernel_rfl, by kernel_rfl, by kernel_rfl, by decide +kernel, by kernel_rfl, by decide +kernel, by decide +kernel⟩ fun _ _ _ _ _ _ us hl => match us, hl with | [_], _ => by kernel_rfl
theorem g15 : dIsEvent.Good gt := good_of dIsEvent rfl (by decide +kernel) ⟨by kernel_rfl, by kernel_rfl, by kernel_rfl, by decide +kernel, by kernel_rfl, by decide +kernel, by decide +kernel⟩ fun _ _ _ _ _ _ us hl => match us, hl with | [_, _], _ => by kernel_rfl
theorem g16 : dCanCome.Good gt := good_of dCanCome rfl (by decide +kernel) ⟨by kernel_rfl, by kernel_rfl, by kernel_rfl, by decide +kernel, by kernel_rfl, by decide +kernel, by decide +kernel⟩ fun _ _ _ _ _ _ us hl => match us, hl with | [_, _, _], _ => by kernel_rfl
theorem g17 : dBehind.Good gt := good_of dBehind rfl (by decide +kernel) ⟨by kernel_rfl, by kernel_rfl, by kernel_rfl, by decide +kernel, by kernel_rfl, by decide +kernel, by decide +kernel⟩ fun _ _ _ _ _ _ us hl => match us, hl with | [_, _, _], _ => by kernel_rfl
theorem g18 : dWalked.Good gt := good_of dWalked rfl (by decide +kernel) ⟨by kernel_rfl, by kernel_rfl, by kernel_rfl, by decide +kernel, by kernel_rfl, by decide +kernel, by decide +kernel⟩ fun _ _ _ _ _ _ us hl => match us, hl with | [_, _, _], _ => by kernel_rfl
theorem g19 : dStandings.Good gt := good_of dStandings rfl (by decide +kernel) ⟨by kernel_rfl, by kernel_rfl, by kernel_rfl, by decide +kernel, by kernel_rfl, by decide +kernel, by decide +kernel⟩ fun _ _ _ _ _ _ us hl => match us, hl with | [_, _], _ => by kernel_rfl
theorem g20 : dLawPot.Good gt := good_of dLawPot rfl (by decide +kernel) ⟨by kernel_rfl, by kernel_rfl, by kernel_rfl, by decide +kernel, by kernel_rfl, by decide +kernel, by decide +kernel⟩ fun _ _ _ _ _ _ us hl => match us, hl with | [_, _], _ => by kernel_rfl
theorem g21 : dLawTake.Good gt := good_of dLawTake rfl (by decide +kernel) ⟨by kernel_rfl, by kernel_rfl, by kernel_rfl, by decide +kernel, by kernel_rfl, by decide +kernel, by decide +kernel⟩ fun _ _ _ _ _ _ us hl => match us, hl with | [_, _], _ => by kernel_rfl
theorem g22 : dLawOf.Good gt := good_of dLawOf rfl (by decide +kernel) ⟨by kernel_rfl, by kernel_rfl, by kernel_rfl, by decide +kernel, by kernel_rfl, by decide +kernel, by decide +kernel⟩ fun _ _ _ _ _ _ us hl => match us, hl with | [_, _], _ => by kernel_rfl
theorem g23 : dLawSome.Good gt := good_of dLawSome rfl (by decide +kernel) ⟨by kernel_rfl, by kernel_rfl, by kernel_rfl, by decide +kernel, by kernel_rfl, by decide +kernel, by decide +kernel⟩ fun _ _ _ _ _ _ us hl => match us, hl with | [_, _, _], _ => by kernel_rfl
theorem g24 : dLawCells.Good gt := good_of dLawCells rfl (by decide +kernel) ⟨by kernel_rfl, by kernel_rfl, by kernel_rfl, by decide +kernel, by kernel_rfl, by decide +kernel, by decide +kernel⟩ fun _ _ _ _ _ _ us hl => match us, hl with | [_, _], _ => by kernel_rfl
theorem g25 : dLawOdd.Good gt := good_of dLawOdd rfl (by decide +kernel) ⟨by kernel_rfl, by kernel_rfl, by kernel_rfl, by decide +kernel, by kernel_rfl, by decide +kernel, by decide +kernel⟩ fun _ _ _ _ _ _ us hl => match us, hl with | [_], _ => by kernel_rfl
theorem g26 : dLawBent.Good gt := good_of dLawBent rfl (by decide +kernel) ⟨by kernel_rfl, by kernel_rfl, by kernel_rfl, by decide +kernel, by kernel_rfl, by decide +kernel, by decide +kernel⟩ fun _ _ _ _ _ _ us hl => match us, hl with | [_, _], _ => by kernel_rfl
theorem g27 : dLawNames.Good gt := good_of dLawNames rfl (by decide +kernel) ⟨by kernel_rfl, by kernel_rfl, by kernel_rfl, by decide +kernel, by kernel_rfl, by decide +kernel, by decide +kernel⟩ fun _ _ _ _ _ _ us hl => match us, hl with | [_, _], _ => by kernel_rfl
theorem g28 : dLawJobs.Good gt := good_of dLawJobs rfl (by decide +kernel) ⟨by kernel_rfl, by kernel_rfl, by kernel_rfl, by decide +kernel, by kernel_rfl, by decide +kernel, by decide +kernel⟩ fun _ _ _ _ _ _ us hl => match us, hl with | [_, _, _], _ => by kernel_rfl
theorem g29 : dLawAnyManners.Good gt := good_of dLawAnyManners rfl (by decide +kernel) ⟨by kernel_rfl, by kernel_rfl, by kernel_rfl, by decide +kernel, by kernel_rfl, by decide +kernel, by decide +kernel⟩ fun _ _ _ _ _ _ us hl => match us, hl with | [], _ => by kernel_rfl
theorem g30 : dLawFirst.Good gt := good_of dLawFirst rfl (by decide +kernel) ⟨by kernel_rfl, by kernel_rfl, by kernel_rfl, by decide +kernel, by kernel_rfl, by decide +kernel, by decide +kernel⟩ fun _ _ _ _ _ _ us hl => match us, hl with | [_], _ => by kernel_rfl
theorem g31 : dLawIsEvent.Good gt := good_of dLawIsEvent rfl (by decide +kernel) ⟨by kernel_rfl, by kernel_rfl, by kernel_rfl, by decide +kernel, by kernel_rfl, by decide +kernel, by decide +kernel⟩ fun _ _ _ _ _ _ us hl => match us, hl with | [_, _], _ => by kernel_rfl
theorem g32 : dLawBehind.Good gt := good_of dLawBehind rfl (by decide +kernel) ⟨by kernel_rfl, by kernel_rfl, by kernel_rfl, by decide +kernel, by kernel_rfl, by decide +kernel, by decide +kernel⟩ fun _ _ _ _ _ _ us hl => match us, hl with | [_, _, _], _ => by kernel_rfl
theorem g33 : dLawCanCome.Good gt := good_of dLawCanCome rfl (by decide +kernel) ⟨by kernel_rfl, by kernel_rfl, by kernel_rfl, by decide +kernel, by kernel_rfl, by decide +kernel, by decide +kernel⟩ fun _ _ _ _ _ _ us hl => match us, hl with | [_, _, _], _ => by kernel_rfl
theorem g34 : dLawEvents.Good gt := good_of dLawEvents rfl (by decide +kernel) ⟨by kernel_rfl, by kernel_rfl, by kernel_rfl, by decide +kernel, by kernel_rfl, by decide +kernel, by decide +kernel⟩ fun _ _ _ _ _ _ us hl => match us, hl with | [_, _], _ => by kernel_rfl
theorem g35 : dLawIsRow.Good gt := good_of dLawIsRow rfl (by decide +kernel) ⟨by kernel_rfl, by kernel_rfl, by kernel_rfl, by decide +kernel, by kernel_rfl, by decide +kernel, by decide +kernel⟩ fun _ _ _ _ _ _ us hl => match us, hl with | [_, _], _ => by kernel_rfl
theorem g36 : dLawStandings.Good gt := good_of dLawStandings rfl (by decide +kernel) ⟨by kernel_rfl, by kernel_rfl, by kernel_rfl, by decide +kernel, by kernel_rfl, by decide +kernel, by decide +kernel⟩ fun _ _ _ _ _ _ us hl => match us, hl with | [_, _], _ => by kernel_rfl
theorem g37 : dLawRow.Good gt := good_of dLawRow rfl (by decide +kernel) ⟨by kernel_rfl, by kernel_rfl, by kernel_rfl, by decide +kernel, by kernel_rfl, by decide +kernel, by decide +kernel⟩ fun _ _ _ _ _ _ us hl => match us, hl with | [_, _, _], _ => by kernel_rfl
theorem g38 : dLawStandingText.Good gt := good_of dLawStandingText rfl (by decide +kernel) ⟨by kernel_rfl, by kernel_rfl, by kernel_rfl, by decide +kernel, by kernel_rfl, by decide +kernel, by decide +kernel⟩ fun _ _ _ _ _ _ us hl => match us, hl with | [_], _ => by kernel_rfl
theorem g39 : dLawFactLine.Good gt := good_of dLawFactLine rfl (by decide +kernel) ⟨by kernel_rfl, by kernel_rfl, by kernel_rfl, by decide +kernel, by kernel_rfl, by decide +kernel, by decide +kernel⟩ fun _ _ _ _ _ _ us hl => match us, hl with | [_], _ => by kernel_rfl
theorem g40 : dLawLines.Good gt := good_of dLawLines rfl (by decide +kernel) ⟨by kernel_rfl, by kernel_rfl, by kernel_rfl, by decide +kernel, by kernel_rfl, by decide +kernel, by decide +kernel⟩ fun _ _ _ _ _ _ us hl => match us, hl with | [_], _ => by kernel_rfl
theorem g41 : dLawText.Good gt := good_of dLawText rfl (by decide +kernel) ⟨by kernel_rfl, by kernel_rfl, by kernel_rfl, by decide +kernel, by kernel_rfl, by decide +kernel, by decide +kernel⟩ fun _ _ _ _ _ _ us hl => match us, hl with | [_], _ => by kernel_rfl
theorem g42 : dLawBook.Good gt := good_of dLawBook rfl (by decide +kernel) ⟨by kernel_rfl, by kernel_rfl, by kernel_rfl, by decide +kernel, by kernel_rfl, by decide +kernel, by decide +kernel⟩ fun _ _ _ _ _ _ us hl => match us, hl with | [_], _ => by kernel_rfl
theorem g43 : dLawLongRow.Good gt := good_of dLawLongRow rfl (by decide +kernel) ⟨by kernel_rfl, by kernel_rfl, by kernel_rfl, by decide +kernel, by kernel_rfl, by decide +kernel, by decide +kernel⟩ fun _ _ _ _ _ _ us hl => match us, hl with | [_, _, _], _ => by kernel_rfl
theorem g44 : dLawNear.Good gt := good_of dLawNear rfl (by decide +kernel) ⟨by kernel_rfl, by kernel_rfl, by kernel_rfl, by decide +kernel, by kernel_rfl, by decide +kernel, by decide +kernel⟩ fun _ _ _ _ _ _ us hl => match us, hl with | [_, _, _], _ => by kernel_rfl
theorem g45 : dLawRight.Good gt := good_of dLawRight rfl (by decide +kernel) ⟨by kernel_rfl, by kernel_rfl, by kernel_rfl, by decide +kernel, by kernel_rfl, by decide +kernel, by decide +kernel⟩ fun _ _ _ _ _ _ us hl => match us, hl with | [_], _ => by kernel_rfl
theorem g46 : dLaw.Good gt := good_of dLaw rfl (by decide +kernel) ⟨by kernel_rfl, by kernel_rfl, by kernel_rfl, by decide +kernel, by kernel_rfl, by decide +kernel, by decide +kernel⟩ fun _ _ _ _ _ _ us hl => match us, hl with | [_], _ => by kernel_rfl
theorem goods : ∀ (f : Nat) (l : LDef), defs[f]? = some l → l.Good gt
  | 0, _, h => by cases h; exact g0
  | 1, _, h => by cases h; exact g1
  | 2, _, h => by cases h; exact g2
  | 3, _, h => by cases h; exact g3
  | 4, _, h => by cases h; exact g4
  | 5, _, h => by cases h; exact g5
  | 6, _, h => by cases h; exact g6
  | 7, _, h => by cases h; exact g7
  | 8, _, h => by cases h; exact g8
  | 9, _, h => by cases h; exact g9
  | 10, _, h => by cases h; exact g10
  | 11, _, h => by cases h; exact g11
  | 12, _, h => by cases h; exact g12
  | 13, _, h => by cases h; exact g13
  | 14, _, h => by cases h; exact g14
  | 15, _, h => by cases h; exact g15
  | 16, _, h => by cases h; exact g16
  | 17, _, h => by cases h; exact g17
  | 18, _, h => by cases h; exact g18
  | 19, _, h => by cases h; exact g19
  | 20, _, h => by cases h; exact g20
  | 21, _, h => by cases h; exact g21
  | 22, _, h => by cases h; exact g22
  | 23, _, h => by cases h; exact g23
  | 24, _, h => by cases h; exact g24
  | 25, _, h => by cases h; exact g25
  | 26, _, h => by cases h; exact g26
  | 27, _, h => by cases h; exact g27
  | 28, _, h => by cases h; exact g28
  | 29, _, h => by cases h; exact g29
  | 30, _, h => by cases h; exact g30
  | 31, _, h => by cases h; exact g31
  | 32, _, h => by cases h; exact g32
  | 33, _, h => by cases h; exact g33
  | 34, _, h => by cases h; exact g34
  | 35, _, h => by cases h; exact g35
  | 36, _, h => by cases h; exact g36
  | 37, _, h => by cases h; exact g37
  | 38, _, h => by cases h; exact g38
  | 39, _, h => by cases h; exact g39
  | 40, _, h => by cases h; exact g40
  | 41, _, h => by cases h; exact g41
  | 42, _, h => by cases h; exact g42
  | 43, _, h => by cases h; exact g43
  | 44, _, h => by cases h; exact g44
  | 45, _, h => by cases h; exact g45
  | 46, _, h => by cases h; exact g46
  | n + 47, _, h => by cases h
theorem mkC : ((List.range cs.length).all fun c => !mks.getD c false || ((cs[c]?).map (·.init.isSome)).getD true) = true := by decide +kernel
theorem lamC : (defs.all fun l => !l.lam || (decide ((l.d.at_, l.d.qual) ∈ tf) && !l.d.prop)) = true := by decide +kernel
theorem tolds : (gs.all fun p => match p.2 with
  | .told c => decide (p.1 = "_law_told") && decide (c = 0)
  | _ => true) = true := by decide +kernel
theorem excs : (gs.all fun p => match p.2 with
  | .exc c => (match cs[c]? with
    | some d => d.isX
    | none => true)
  | _ => true) = true := by decide +kernel
def tp : ToldP := ⟨"_law_look", "_law_caught", "_law_back", "error", "StockError"⟩
theorem tpOk : tp.Ok dTold.scope := by constructor <;> first | decide +kernel | kernel_rfl
theorem toldBody : ∃ (k1 k2 k3 j1 j2 : Nat) (q1 q2 q3 q4 q5 q6 q7 q8 q9 q10 q11 q12 q13 q14 q15 q16 q17 q18 q19 q20 q21 : Pos), dTold.body = tp.body k1 k2 k3 j1 j2 q1 q2 q3 q4 q5 q6 q7 q8 q9 q10 q11 q12 q13 q14 q15 q16 q17 q18 q19 q20 q21 := ⟨_, _, _, _, _, _, _, _, _, _, _, _, _, _, _, _, _, _, _, _, _, _, _, _, _, _, rfl⟩
theorem lawB {K : PySem.W.Frag} (c : SaysX chk fnl K) : LawB K pw cs nms gs ow mks tf defs := by
  obtain ⟨a1, a2⟩ := ba c.all
  obtain ⟨a3, a6⟩ := ba a2
  obtain ⟨a4, a5⟩ := ba a3
  refine ⟨a1, fun f l h => ?_, goods, by decide +kernel, by decide +kernel, fun k d h hm => ?_, fun x k d hg h => ?_, rfl, fun x k h => ?_, fun f l h hl => ?_, fun p hp q hq e => ?_⟩
  · have h' : fnl[f + 2]? = some l.d := by
      show (defs.map (·.d))[f]? = some l.d
      rw [List.getElem?_map, h]; rfl
    exact c.def_ h' (goods f l h).clo
  · have := List.all_eq_true.mp mkC k (List.mem_range.mpr (List.getElem?_eq_some_iff.mp h).1)
    simpa only [hm, h, Bool.not_true, Bool.false_or, Option.map_some, Option.getD_some] using this
  · have hx := List.all_eq_true.mp excs (x, .exc k) (PySem.mem_of_lookup hg)
    simp only [h] at hx
    have h5 := List.all_eq_true.mp a5 d (List.mem_of_getElem? h)
    simp only [hx, if_true] at h5
    exact xf_ok (i := 0) (l := 8) c (.inr rfl) rfl (ar := (defArgs sInit).args.headD ⟨"", none, ⟨0, 0, 0, 0⟩⟩) (by kernel_rfl) (by kernel_rfl) (fun _ _ _ _ _ _ _ _ _ => by kernel_rfl) a4 h5
  · have ht := List.all_eq_true.mp tolds (x, .told k) (PySem.mem_of_lookup h)
    simp only [Bool.and_eq_true, decide_eq_true_eq] at ht
    obtain ⟨rfl, rfl⟩ := ht
    refine ⟨dTold, tp, rfl, rfl, rfl, rfl, c.def_ (i := 1) rfl rfl, fun kV doc pm an cdv ct us hl => match us, hl with | [_], _ => by kernel_rfl, ⟨by kernel_rfl, by kernel_rfl, by kernel_rfl, by decide +kernel, by kernel_rfl, by decide +kernel, by decide +kernel⟩, tpOk, ⟨_, rfl, rfl⟩, toldBody⟩
  · have := List.all_eq_true.mp lamC l (List.mem_of_getElem? h)
    simpa [hl] using this
  · simp only [tabT, tf, List.map_cons, List.map_nil, List.mem_singleton, List.not_mem_nil] at hp hq
    subst hp hq; rfl
end L05
set_option Elab.async false
set_option linter.all false
set_option maxRecDepth 100000
set_option maxHeartbeats 0
namespace L05
open PySem PySem.Spec PyProof.Rows L2
open He hiding SaysX obsX valX saysX_of AlX hookX
open Eg
/- 0 ('f', 'is_tuple'): ['value', 'many'] -/
def bIsTuple : Sts :=
  (.cons (.ret (.and (.isi (.var 0) (.inr "tuple")) (.and (.cst (.bl true)) (.cmp .Eq (.bi .len (.cons false (.var 0) .nil)) (.var 1)))))
  .nil)
def fIsTuple : Fn := ⟨2, 2, [], bIsTuple⟩
theorem fIsTuple_eq : dIsTuple.fn = fIsTuple := by kernel_rfl
/- 1 ('f', 'is_word'): ['value', 'words'] -/
def bIsWord : Sts :=
  (.cons (.ret (.and (.isi (.var 0) (.inr "str")) (.and (.cst (.bl true)) (.cmp .In (.var 0) (.var 1)))))
  .nil)
def fIsWord : Fn := ⟨2, 2, [], bIsWord⟩
theorem fIsWord_eq : dIsWord.fn = fIsWord := by kernel_rfl
/- 2 ('f', 'is_name'): ['word', 'sign'] -/
def bIsName : Sts :=
  (.cons (.ret (.and (.chain .Lt .LtE (.cst (.int 0)) (.bi .len (.cons false (.var 0) .nil)) (.cst (.int 8))) (.and (.cst (.bl true)) (.bi .all (.cons false (.comp (.cmp .In (.var 1) (.cst (.str "abcdefghijklmnopqrstuvwxyz"))) (.nm 1) (.seq (.var 0)) .tt [1]) .nil)))))
  .nil)
def fIsName : Fn := ⟨1, 2, [], bIsName⟩
theorem fIsName_eq : dIsName.fn = fIsName := by kernel_rfl
/- 3 ('f', 'number_in'): ['word', 'sign'] -/
def bNumberIn : Sts :=
  (.cons (.ifs (.or (.not (.ex (.chain .Lt .LtE (.cst (.int 0)) (.bi .len (.cons false (.var 0) .nil)) (.cst (.int 15))))) (.not (.ex (.bi .all (.cons false (.comp (.cmp .In (.var 1) (.cst (.str "0123456789"))) (.nm 1) (.seq (.var 0)) .tt [1]) .nil))))) (.cons (.ret (.cst .non))
  .nil) .nil)
  (.cons (.ret (.ite (.or (.ex (.cmp .Eq (.var 0) (.cst (.str "0")))) (.ex (.cmp .NotEq (.ix (.var 0) (.cst (.int 0))) (.cst (.str "0"))))) (.bi .int (.cons false (.var 0) .nil)) (.cst .non)))
  .nil))
def fNumberIn : Fn := ⟨1, 2, [], bNumberIn⟩
theorem fNumberIn_eq : dNumberIn.fn = fNumberIn := by kernel_rfl
/- 4 ('f', 'are_unlike'): ['some', 'number', 'one'] -/
def bAreUnlike : Sts :=
  (.cons (.ret (.bi .all (.cons false (.comp (.cmp .NotIn (.var 2) (.sl (.var 0) .none (.var 1))) (.tp [(.nm 1), (.nm 2)]) (.enum (.var 0)) .tt [1, 2]) .nil)))
  .nil)
def fAreUnlike : Fn := ⟨1, 3, [], bAreUnlike⟩
theorem fAreUnlike_eq : dAreUnlike.fn = fAreUnlike := by kernel_rfl
/- 5 ('f', 'is_standing'): ['value', 'many', 'pair', 'begun', 'ended'] -/
def bIsStanding : Sts :=
  (.cons (.ifs (.or (.not (.ex (.call 0 (.cons true (.var 0) (.cons true (.var 1) .nil))))) (.not (.ex (.bi .all (.cons false (.comp (.call 0 (.cons true (.var 2) (.cons true (.cst (.int 2)) .nil))) (.nm 2) (.seq (.var 0)) .tt [2]) .nil))))) (.cons (.ret (.cst (.bl false)))
  .nil) .nil)
  (.cons (.ret (.bi .all (.cons false (.comp (.and .bad (.and (.cst (.bl true)) .bad)) (.tp [(.nm 3), (.nm 4)]) (.seq (.var 0)) .tt [3, 4]) .nil)))
  .nil))
def fIsStanding : Fn := ⟨2, 5, [], bIsStanding⟩
theorem fIsStanding_eq : dIsStanding.fn = fIsStanding := by kernel_rfl
/- 6 ('f', 'is_fact'): ['value', 'many', 'some'] -/
def bIsFact : Sts :=
  (.cons (.ifs (.or (.not (.ex (.isi (.var 0) (.inr "tuple")))) (.or (.ex (.cmp .Eq (.var 0) (.tup .nil))) (.not (.ex (.call 1 (.cons true (.ix (.var 0) (.cst (.int 0))) (.cons true (.tup (.cons false (.cst (.str "let")) (.cons false (.cst (.str "not")) (.cons false (.cst (.str "as")) .nil)))) .nil))))))) (.cons (.ret (.cst (.bl false)))
  .nil) .nil)
  (.cons (.ifs (.ex (.cmp .NotEq (.bi .len (.cons false (.var 0) .nil)) (.ite (.ex (.cmp .Eq (.ix (.var 0) (.cst (.int 0))) (.cst (.str "as")))) (.cst (.int 3)) (.cst (.int 2))))) (.cons (.ret (.cst (.bl false)))
  .nil) .nil)
  (.cons (.ret (.and (.bi .all (.cons false (.comp (.call 5 (.cons true (.var 2) (.cons true (.var 1) .nil))) (.nm 2) (.seq (.sl (.var 0) (.cst (.int 1)) .none)) .tt [2]) .nil)) (.and (.cst (.bl true)) (.or (.cmp .NotEq (.ix (.var 0) (.cst (.int 0))) (.cst (.str "as"))) (.and (.cst (.bl true)) (.cmp .NotEq (.ix (.var 0) (.cst (.int 1))) (.ix (.var 0) (.neg (.cst (.int 1))))))))))
  .nil)))
def fIsFact : Fn := ⟨2, 3, [], bIsFact⟩
theorem fIsFact_eq : dIsFact.fn = fIsFact := by kernel_rfl
/- 7 ('f', 'jobs_in'): ['line', 'words', 'names', 'name'] -/
def bJobsIn : Sts :=
  (.cons (.asg 1 (.m1 .split (.var 0) (.cst (.str " "))))
  (.cons (.asg 2 (.bi .tuple (.cons false (.sl (.var 1) (.cst (.int 1)) .none) .nil)))
  (.cons (.ifs (.or (.ex (.cmp .NotEq (.ix (.var 1) (.cst (.int 0))) (.cst (.str "jobs")))) (.or (.not (.ex (.chain .Lt .LtE (.cst (.int 0)) (.bi .len (.cons false (.var 2) .nil)) (.cst (.int 4))))) (.not (.ex (.bi .all (.cons false (.comp (.call 2 (.cons true (.var 3) .nil)) (.nm 3) (.seq (.var 2)) .tt [3]) .nil)))))) (.cons (.ret (.cst .non))
  .nil) .nil)
  (.cons (.ret (.ite (.ex (.call 4 (.cons true (.var 2) .nil))) (.var 2) (.cst .non)))
  .nil))))
def fJobsIn : Fn := ⟨1, 4, [], bJobsIn⟩
theorem fJobsIn_eq : dJobsIn.fn = fJobsIn := by kernel_rfl
/- 8 ('f', 'standing_in'): ['words', 'many', 'numbers', 'standing', 'word', 'at'] -/
def bStandingIn : Sts :=
  (.cons (.asg 2 (.comp (.call 3 (.cons true (.var 4) .nil)) (.nm 4) (.seq (.var 0)) .tt [4]))
  (.cons (.ifs (.or (.ex (.cmp .NotEq (.bi .len (.cons false (.var 2) .nil)) (.bin .Mult (.cst (.int 2)) (.var 1)))) (.ex (.cmp .In (.cst .non) (.var 2)))) (.cons (.ret (.cst .non))
  .nil) .nil)
  (.cons (.asg 3 (.bi .tuple (.cons false (.comp (.tup (.cons false (.ix (.var 2) (.bin .Mult (.cst (.int 2)) (.var 5))) (.cons false (.ix (.var 2) (.bin .Add (.bin .Mult (.cst (.int 2)) (.var 5)) (.cst (.int 1)))) .nil))) (.nm 5) (.rng1 (.var 1)) .tt [5]) .nil)))
  (.cons (.ret (.ite (.ex (.call 5 (.cons true (.var 3) (.cons true (.var 1) .nil)))) (.var 3) (.cst .non)))
  .nil))))
/- 9 ('f', 'fact_in'): ['words', 'many', 'fact'] -/
def bFactIn : Sts :=
  (.cons (.ifs (.ex (.cmp .In (.ix (.var 0) (.cst (.int 0))) (.tup (.cons false (.cst (.str "let")) (.cons false (.cst (.str "not")) .nil))))) (.cons (.asg 2 (.tup (.cons false (.ix (.var 0) (.cst (.int 0))) (.cons false (.call 8 (.cons true (.sl (.var 0) (.cst (.int 1)) .none) (.cons true (.var 1) .nil))) .nil))))
  .nil) (.cons (.ifs (.and (.ex (.cmp .Eq (.ix (.var 0) (.cst (.int 0))) (.cst (.str "as")))) (.and (.ex (.cmp .Gt (.bi .len (.cons false (.var 0) .nil)) (.bin .Add (.bin .Mult (.cst (.int 2)) (.var 1)) (.cst (.int 1))))) (.ex (.cmp .Eq (.ix (.var 0) (.bin .Add (.bin .Mult (.cst (.int 2)) (.var 1)) (.cst (.int 1)))) (.cst (.str "to")))))) (.cons (.asg 2 (.tup (.cons false (.cst (.str "as")) (.cons false (.call 8 (.cons true (.sl (.var 0) (.cst (.int 1)) (.bin .Add (.bin .Mult (.cst (.int 2)) (.var 1)) (.cst (.int 1)))) (.cons true (.var 1) .nil))) (.cons false (.call 8 (.cons true (.sl (.var 0) (.bin .Add (.bin .Mult (.cst (.int 2)) (.var 1)) (.cst (.int 2))) .none) (.cons true (.var 1) .nil))) .nil)))))
  .nil) (.cons (.ret (.cst .non))
  .nil))
  .nil))
  (.cons (.ret (.ite (.ex (.call 6 (.cons true (.var 2) (.cons true (.var 1) .nil)))) (.var 2) (.cst .non)))
  .nil))
def fFactIn : Fn := ⟨2, 3, [], bFactIn⟩
theorem fFactIn_eq : dFactIn.fn = fFactIn := by kernel_rfl
/- 10 ('f', 'first_full'): ['facts', 'number', 'fact', 'one'] -/
def bFirstFull : Sts :=
  (.cons (.for_ (.tp [(.nm 1), (.nm 2)]) (.enum (.var 0)) (.cons (.ifs (.ex (.cmp .Eq (.bi .len (.cons false (.comp (.var 3) (.nm 3) (.seq (.sl (.var 0) .none (.var 1))) (.ex (.cmp .Eq (.ix (.var 3) (.cst (.int 0))) (.ix (.var 2) (.cst (.int 0))))) [3]) .nil)) (.ix .bad (.ix (.var 2) (.cst (.int 0)))))) (.cons (.ret (.ix .bad (.ix (.var 2) (.cst (.int 0)))))
  .nil) .nil)
  .nil))
  (.cons (.ret (.cst .non))
  .nil))
def fFirstFull : Fn := ⟨1, 4, [], bFirstFull⟩
theorem fFirstFull_eq : dFirstFull.fn = fFirstFull := by kernel_rfl
/- 11 ('f', 'taken'): ['words', 'jobs', 'manners', 'facts', 'fact'] -/
def bTaken : Sts :=
  (.cons (.ifs (.ex (.cmp .In (.ix (.var 0) (.cst (.int 0))) (.cst (.tup [(.str "clean"), (.str "spent"), (.str "free")])))) (.cons (.ifs (.or (.ex (.cmp .NotEq (.var 3) (.tup .nil))) (.or (.ex (.cmp .NotEq (.bi .len (.cons false (.var 0) .nil)) (.cst (.int 2)))) (.or (.ex (.cmp .NotIn (.ix (.var 0) (.cst (.int 1))) (.var 1))) (.ex (.cmp .In (.ix (.var 0) (.cst (.int 1))) (.var 2)))))) (.cons (.ret (.cst .non))
  .nil) .nil)
  (.cons (.ret (.tup (.cons false (.dicS (.var 2) (.ix (.var 0) (.cst (.int 1))) (.ix (.var 0) (.cst (.int 0)))) (.cons false (.var 3) .nil))))
  .nil)) .nil)
  (.cons (.asg 4 (.call 9 (.cons true (.var 0) (.cons true (.bi .len (.cons false (.var 1) .nil)) .nil))))
  (.cons (.ifs (.or (.ex (.cmp .Is (.var 4) (.cst .non))) (.or (.ex (.cmp .In (.var 4) (.var 3))) (.ex (.cmp .IsNot (.call 10 (.cons true (.tup (.cons true (.var 3) (.cons false (.var 4) .nil))) .nil)) (.cst .non))))) (.cons (.ret (.cst .non))
  .nil) .nil)
  (.cons (.ret (.tup (.cons false (.var 2) (.cons false (.tup (.cons true (.var 3) (.cons false (.var 4) .nil))) .nil))))
  .nil))))
def fTaken : Fn := ⟨4, 5, [], bTaken⟩
theorem fTaken_eq : dTaken.fn = fTaken := by kernel_rfl
/- 12 ('f', 'read'): ['text', 'lines', 'jobs', 'manners', 'facts', 'number', 'line', 'found'] -/
def bRead : Sts :=
  (.cons (.ifs (.not (.ex (.isi (.var 0) (.inr "str")))) (.cons (.raise 1 (.cst (.int 0)))
  .nil) .nil)
  (.cons (.asg 1 (.m1 .split (.var 0) (.cst (.str "\n"))))
  (.cons (.par [2, 3, 4] (.cons false (.call 7 (.cons true (.ix (.var 1) (.cst (.int 0))) .nil)) (.cons false (.dic [] .nil) (.cons false (.tup .nil) .nil))))
  (.cons (.ifs (.ex (.cmp .Is (.var 2) (.cst .non))) (.cons (.raise 1 (.cst (.int 1)))
  .nil) .nil)
  (.cons (.for_ (.tp [(.nm 5), (.nm 6)]) (.enum (.var 1)) (.cons (.ifs (.ex (.cmp .Gt (.var 5) (.cst (.int 0)))) (.cons (.asg 7 (.call 11 (.cons true (.m1 .split (.var 6) (.cst (.str " "))) (.cons true (.var 2) (.cons true (.var 3) (.cons true (.var 4) .nil))))))
  (.cons (.ifs (.ex (.cmp .Is (.var 7) (.cst .non))) (.cons (.raise 1 (.bin .Add (.var 5) (.cst (.int 1))))
  .nil) .nil)
  (.cons (.asgT (.tp [(.nm 3), (.nm 4)]) (.var 7))
  .nil))) .nil)
  .nil))
  (.cons (.ret (.tup (.cons false (.var 2) (.cons false (.var 3) (.cons false (.var 4) .nil)))))
  .nil))))))
def fRead : Fn := ⟨1, 8, [], bRead⟩
theorem fRead_eq : dRead.fn = fRead := by kernel_rfl
/- 13 ('m', 'Book', '__init__'): ['self', 'text'] -/
def bBookInit : Sts :=
  (.cons (.asgTF 0 [1, 2, 3] (.call 12 (.cons true (.var 1) .nil)))
  (.cons (.asgF 0 4 (.var 1))
  .nil))
def fBookInit : Fn := ⟨2, 2, [], bBookInit⟩
theorem fBookInit_eq : dBookInit.fn = fBookInit := by kernel_rfl
/- 14 ('m', 'Book', 'jobs'): ['self'] -/
def bBookJobs : Sts :=
  (.cons (.ret (.fld (.var 0) 1))
  .nil)
def fBookJobs : Fn := ⟨1, 1, [], bBookJobs⟩
theorem fBookJobs_eq : dBookJobs.fn = fBookJobs := by kernel_rfl
/- 15 ('f', 'is_event'): ['jobs', 'value'] -/
def bIsEvent : Sts :=
  (.cons (.ret (.and (.call 0 (.cons true (.var 1) (.cons true (.cst (.int 2)) .nil))) (.and (.call 1 (.cons true (.ix (.var 1) (.cst (.int 0))) (.cons true (.tup (.cons false (.cst (.str "begin")) (.cons false (.cst (.str "end")) .nil))) .nil))) (.and (.cst (.bl true)) (.call 1 (.cons true (.ix (.var 1) (.cst (.int 1))) (.cons true (.var 0) .nil)))))))
  .nil)
def fIsEvent : Fn := ⟨2, 2, [], bIsEvent⟩
theorem fIsEvent_eq : dIsEvent.fn = fIsEvent := by kernel_rfl
/- 16 ('f', 'can_come'): ['jobs', 'standing', 'value', 'begun', 'ended'] -/
def bCanCome : Sts :=
  (.cons (.ifs (.not (.ex (.call 15 (.cons true (.var 0) (.cons true (.var 2) .nil))))) (.cons (.ret (.cst (.bl false)))
  .nil) .nil)
  (.cons (.asgT (.tp [(.nm 3), (.nm 4)]) (.ix (.var 1) (.m1 .index (.var 0) (.ix (.var 2) (.cst (.int 1))))))
  (.cons (.ret (.or (.cmp .Eq (.ix (.var 2) (.cst (.int 0))) (.cst (.str "begin"))) (.and (.cst (.bl true)) (.cmp .Lt (.var 4) (.var 3)))))
  .nil)))
def fCanCome : Fn := ⟨3, 5, [], bCanCome⟩
theorem fCanCome_eq : dCanCome.fn = fCanCome := by kernel_rfl
/- 17 ('f', 'behind'): ['jobs', 'standing', 'event', 'at', 'begun', 'ended', 'pair'] -/
def bBehind : Sts :=
  (.cons (.asg 3 (.m1 .index (.var 0) (.ix (.var 2) (.cst (.int 1)))))
  (.cons (.asgT (.tp [(.nm 4), (.nm 5)]) (.ix (.var 1) (.var 3)))
  (.cons (.asg 6 (.ite (.ex (.cmp .Eq (.ix (.var 2) (.cst (.int 0))) (.cst (.str "begin")))) (.tup (.cons false (.bin .Add (.var 4) (.cst (.int 1))) (.cons false (.var 5) .nil))) (.tup (.cons false (.var 4) (.cons false (.bin .Add (.var 5) (.cst (.int 1))) .nil)))))
  (.cons (.ret (.tup (.cons true (.sl (.var 1) .none (.var 3)) (.cons false (.var 6) (.cons true (.sl (.var 1) (.bin .Add (.var 3) (.cst (.int 1))) .none) .nil)))))
  .nil))))
def fBehind : Fn := ⟨3, 7, [], bBehind⟩
theorem fBehind_eq : dBehind.fn = fBehind := by kernel_rfl
/- 18 ('f', 'walked'): ['jobs', 'value', 'most', 'found', 'event', 'job'] -/
def bWalked : Sts :=
  (.cons (.ifs (.or (.not (.ex (.isi (.var 1) (.inr "tuple")))) (.ex (.cmp .Gt (.bi .len (.cons false (.var 1) .nil)) (.var 2)))) (.cons (.ret (.cst .non))
  .nil) .nil)
  (.cons (.asg 3 (.lst (.cons false (.bi .tuple (.cons false (.comp (.tup (.cons false (.cst (.int 0)) (.cons false (.cst (.int 0)) .nil))) (.nm 5) (.seq (.var 0)) .tt [5]) .nil)) .nil)))
  (.cons (.for_ (.nm 4) (.seq (.var 1)) (.cons (.ifs (.not (.ex (.call 16 (.cons true (.var 0) (.cons true (.ix (.var 3) (.neg (.cst (.int 1)))) (.cons true (.var 4) .nil)))))) (.cons (.ret (.cst .non))
  .nil) .nil)
  (.cons (.app 3 (.call 17 (.cons true (.var 0) (.cons true (.ix (.var 3) (.neg (.cst (.int 1)))) (.cons true (.var 4) .nil)))))
  .nil)))
  (.cons (.ret (.bi .tuple (.cons false (.sl (.var 3) (.cst (.int 1)) .none) .nil)))
  .nil))))
def fWalked : Fn := ⟨3, 6, [3], bWalked⟩
theorem fWalked_eq : dWalked.fn = fWalked := by kernel_rfl
/- 19 ('f', 'standings'): ['book', 'row', 'found'] -/
def bStandings : Sts :=
  (.cons (.asg 2 (.call 18 (.cons true (.fld (.var 0) 5) (.cons true (.var 1) (.cons true (.cst (.int 24)) .nil)))))
  (.cons (.ifs (.ex (.cmp .Is (.var 2) (.cst .non))) (.cons (.raise 5 (.var 1))
  .nil) .nil)
  (.cons (.ret (.var 2))
  .nil)))
def fStandings : Fn := ⟨2, 3, [], bStandings⟩
theorem fStandings_eq : dStandings.fn = fStandings := by kernel_rfl
/- 20 ('f', '_law_pot'): ['_law_script', '_law_place', '_law_cell', '_law_own', '_law_small'] -/
def bLawPot : Sts :=
  (.cons (.asg 2 (.ite (.ex (.cmp .Lt (.var 1) (.bi .len (.cons false (.var 0) .nil)))) (.ix (.var 0) (.var 1)) (.bin .Add (.bin .Mult (.cst (.int 183)) (.var 1)) (.cst (.int 64)))))
  (.cons (.asg 3 (.bin .Mult (.bin .Mod (.bi .int (.cons false (.bi .abs (.cons false (.var 2) .nil)) .nil)) (.bin .Pow (.bin .Pow (.cst (.int 10)) (.cst (.int 60))) (.cst (.int 5)))) (.bi .int (.cons false (.cmp .GtE (.bi .abs (.cons false (.var 2) .nil)) (.bin .Pow (.cst (.int 10)) (.cst (.int 18)))) .nil))))
  (.cons (.asg 4 (.bin .Mod (.bi .int (.cons false (.var 2) .nil)) (.cst (.int 2305843009213693951))))
  (.cons (.ret (.lst (.cons false (.var 3) (.cons false (.bin .Mod (.bi .int (.cons false (.bin .Add (.bin .Add (.bin .Mult (.var 4) (.cst (.int 73751))) (.bin .Mult (.bin .Mult (.cst (.int 8147)) (.var 1)) (.var 1))) (.cst (.int 159))) .nil)) (.cst (.int 2305843009213693921))) (.cons false (.cst (.int 0)) .nil)))))
  .nil))))
def fLawPot : Fn := ⟨2, 5, [], bLawPot⟩
theorem fLawPot_eq : dLawPot.fn = fLawPot := by kernel_rfl
/- 21 ('f', '_law_take'): ['_law_pot_here', '_law_upto', '_law_digit', '_law_prime', '_law_mixed'] -/
def bLawTake : Sts :=
  (.cons (.ifs (.ex (.cmp .Gt (.ix (.var 0) (.cst (.int 0))) (.cst (.int 0)))) (.cons (.asg 2 (.bin .Mod (.bi .int (.cons false (.ix (.var 0) (.cst (.int 0))) .nil)) (.var 1)))
  (.cons (.asgI 0 (.cst (.int 0)) (.bin .FloorDiv (.ix (.var 0) (.cst (.int 0))) (.var 1)))
  (.cons (.ret (.var 2))
  .nil))) .nil)
  (.cons (.asgI 0 (.cst (.int 2)) (.bin .Add (.ix (.var 0) (.cst (.int 2))) (.cst (.int 1))))
  (.cons (.asg 3 (.ix (.lst (.cons false (.cst (.int 2147483647)) (.cons false (.cst (.int 2147483629)) (.cons false (.cst (.int 2147483587)) (.cons false (.cst (.int 2147483579)) (.cons false (.cst (.int 2147483563)) .nil)))))) (.bin .Mod (.bi .int (.cons false (.ix (.var 0) (.cst (.int 2))) .nil)) (.cst (.int 5)))))
  (.cons (.asg 4 (.bin .Mod (.bi .int (.cons false (.bin .Pow (.bi .int (.cons false (.bin .Add (.bin .Add (.ix (.var 0) (.cst (.int 1))) (.bin .Mult (.bin .Mult (.cst (.int 101021)) (.ix (.var 0) (.cst (.int 2)))) (.ix (.var 0) (.cst (.int 2))))) (.cst (.int 72))) .nil)) (.cst (.int 3))) .nil)) (.var 3)))
  (.cons (.asg 4 (.bin .Mod (.bi .int (.cons false (.bin .Mult (.var 4) (.bin .Add (.bin .Mod (.bi .int (.cons false (.var 4) .nil)) (.cst (.int 10113))) (.bin .Mult (.cst (.int 132)) (.ix (.var 0) (.cst (.int 2)))))) .nil)) (.cst (.int 2305843009213693907))))
  (.cons (.ret (.bin .Mod (.bi .int (.cons false (.bin .FloorDiv (.var 4) (.cst (.int 137))) .nil)) (.var 1)))
  .nil))))))
def fLawTake : Fn := ⟨2, 5, [], bLawTake⟩
theorem fLawTake_eq : dLawTake.fn = fLawTake := by kernel_rfl
/- 22 ('f', '_law_of'): ['_law_pot_here', '_law_some_here'] -/
def bLawOf : Sts :=
  (.cons (.ret (.ix (.var 1) (.call 21 (.cons false (.var 0) (.cons true (.bi .len (.cons false (.var 1) .nil)) .nil)))))
  .nil)
def fLawOf : Fn := ⟨2, 2, [], bLawOf⟩
theorem fLawOf_eq : dLawOf.fn = fLawOf := by kernel_rfl
/- 23 ('f', '_law_some'): ['_law_pot_here', '_law_pool', '_law_many', '_law_left', '_law_found', '_law_lap'] -/
def bLawSome : Sts :=
  (.cons (.par [3, 4] (.cons false (.bi .list (.cons false (.var 1) .nil)) (.cons false (.lst .nil) .nil)))
  (.cons (.for_ (.nm 5) (.rng1 (.var 2)) (.cons (.app 4 (.pop 3 (.call 21 (.cons false (.var 0) (.cons true (.bi .len (.cons false (.var 3) .nil)) .nil)))))
  .nil))
  (.cons (.ret (.var 4))
  .nil)))
def fLawSome : Fn := ⟨3, 6, [4, 3], bLawSome⟩
theorem fLawSome_eq : dLawSome.fn = fLawSome := by kernel_rfl
/- 24 ('f', '_law_cells'): ['_law_script', '_law_most'] -/
def bLawCells : Sts :=
  (.cons (.ret (.lrng (.rng1 (.bi .max2 (.cons false (.cst (.int 1)) (.cons false (.bi .min2 (.cons false (.var 1) (.cons false (.bi .len (.cons false (.var 0) .nil)) .nil))) .nil))))))
  .nil)
def fLawCells : Fn := ⟨2, 2, [], bLawCells⟩
theorem fLawCells_eq : dLawCells.fn = fLawCells := by kernel_rfl
/- 25 ('f', '_law_odd'): ['_law_pot_here', '_law_some_here', '_law_more'] -/
def bLawOdd : Sts :=
  (.cons (.asg 1 (.lst (.cons false (.cst .non) (.cons false (.cst (.bl true)) (.cons false (.cst (.bl false)) (.cons false (.cst (.int 0)) (.cons false (.cst (.int 1)) (.cons false (.neg (.cst (.int 1))) (.cons false (.cst (.int 41)) (.cons false (.bin .Pow (.cst (.int 10)) (.cst (.int 8))) (.cons false (.cst (.str "")) (.cons false (.cst (.str "a")) (.cons false (.cst (.str "begin")) (.cons false (.cst (.str "let")) (.cons false (.tup .nil) (.cons false (.lst .nil) (.cons false (.dic [] .nil) (.cons false (.tup (.cons false (.cst (.int 0)) .nil)) (.cons false (.tup (.cons false (.tup .nil) .nil)) (.cons false (.lst (.cons false (.cst (.int 0)) .nil)) .nil))))))))))))))))))))
  (.cons (.asg 2 (.lst (.cons false (.tup (.cons false (.tup (.cons false (.cst (.int 0)) (.cons false (.cst (.int 0)) .nil))) .nil)) (.cons false (.tup (.cons false (.tup (.cons false (.cst (.str "begin")) (.cons false (.cst (.str "a")) .nil))) .nil)) (.cons false (.tup (.cons false (.cst (.str "let")) (.cons false (.tup (.cons false (.tup (.cons false (.cst (.int 0)) (.cons false (.cst (.int 0)) .nil))) .nil)) .nil))) (.cons false (.tup (.cons false (.cst (.int 1)) (.cons false (.tup .nil) (.cons false (.tup .nil) .nil)))) (.cons false (.tup (.cons false (.cst (.str "never")) .nil)) (.cons false (.cst (.str "always")) (.cons false (.tup (.cons false (.cst (.str "a")) .nil)) .nil)))))))))
  (.cons (.ret (.call 22 (.cons false (.var 0) (.cons true (.bin .Add (.bin .Add (.var 1) (.var 2)) (.lst (.cons false (.dic [.inr "a"] (.cons false (.cst (.int 1)) .nil)) .nil))) .nil))))
  .nil)))
def fLawOdd : Fn := ⟨1, 3, [], bLawOdd⟩
theorem fLawOdd_eq : dLawOdd.fn = fLawOdd := by kernel_rfl
/- 26 ('f', '_law_bent'): ['_law_pot_here', '_law_value', '_law_at', '_law_some_here'] -/
def bLawBent : Sts :=
  (.cons (.ifs (.and (.ex (.isi (.var 1) (.inr "tuple"))) (.and (.ex (.cmp .NotEq (.var 1) (.tup .nil))) (.ex (.cmp .Gt (.call 21 (.cons false (.var 0) (.cons true (.cst (.int 6)) .nil))) (.cst (.int 0)))))) (.cons (.asg 2 (.call 21 (.cons false (.var 0) (.cons true (.bi .len (.cons false (.var 1) .nil)) .nil))))
  (.cons (.ret (.bin .Add (.bin .Add (.sl (.var 1) .none (.var 2)) (.tup (.cons false (.call 26 (.cons false (.var 0) (.cons true (.ix (.var 1) (.var 2)) .nil))) .nil))) (.sl (.var 1) (.bin .Add (.var 2) (.cst (.int 1))) .none)))
  .nil)) .nil)
  (.cons (.ifs (.ex (.isi (.var 1) (.inr "tuple"))) (.cons (.asg 3 (.lst (.cons false (.bi .list (.cons false (.var 1) .nil)) (.cons false (.sl (.var 1) (.cst (.int 1)) .none) (.cons false (.sl (.var 1) .none (.neg (.cst (.int 1)))) (.cons false (.bin .Add (.var 1) (.sl (.var 1) (.neg (.cst (.int 1))) .none)) (.cons false (.rev (.var 1)) (.cons false (.tup .nil) (.cons false (.bin .Add (.var 1) (.tup (.cons false (.cst (.int 0)) .nil))) (.cons false (.cst .non) .nil))))))))))
  (.cons (.ret (.call 22 (.cons false (.var 0) (.cons true (.var 3) .nil))))
  .nil)) .nil)
  (.cons (.ifs (.ex (.isi (.var 1) (.inr "bool"))) (.cons (.ret (.call 22 (.cons false (.var 0) (.cons true (.lst (.cons false (.not (.var 1)) (.cons false (.bi .int (.cons false (.var 1) .nil)) (.cons false (.cst .non) .nil)))) .nil))))
  .nil) .nil)
  (.cons (.ifs (.ex (.isi (.var 1) (.inr "int"))) (.cons (.ret (.call 22 (.cons false (.var 0) (.cons true (.lst (.cons false (.bin .Add (.var 1) (.cst (.int 1))) (.cons false (.bin .Sub (.var 1) (.cst (.int 1))) (.cons false (.cmp .Eq (.var 1) (.cst (.int 1))) (.cons false (.bi .str (.cons false (.var 1) .nil)) (.cons false (.neg (.var 1)) (.cons false (.cst (.int 0)) (.cons false (.bin .Mult (.cst (.int 2)) (.var 1)) (.cons false (.cst .non) (.cons false (.tup (.cons false (.var 1) .nil)) .nil)))))))))) .nil))))
  .nil) .nil)
  (.cons (.ifs (.ex (.isi (.var 1) (.inr "str"))) (.cons (.ret (.call 22 (.cons false (.var 0) (.cons true (.lst (.cons false (.bin .Add (.var 1) (.cst (.str "x"))) (.cons false (.sl (.var 1) .none (.neg (.cst (.int 1)))) (.cons false (.bi .upper (.cons false (.var 1) .nil)) (.cons false (.bin .Add (.var 1) (.cst (.str " "))) (.cons false (.lst (.cons false (.var 1) .nil)) (.cons false (.cst (.str "a")) (.cons false (.cst (.str "end")) (.cons false (.cst (.str "")) (.cons false (.cst .non) (.cons false (.cst (.int 0)) .nil))))))))))) .nil))))
  .nil) .nil)
  (.cons (.ret (.call 25 (.cons false (.var 0) .nil)))
  .nil))))))
def fLawBent : Fn := ⟨2, 4, [], bLawBent⟩
theorem fLawBent_eq : dLawBent.fn = fLawBent := by kernel_rfl
/- 27 ('f', '_law_names'): ['_law_pot_here', '_law_many', '_law_pool'] -/
def bLawNames : Sts :=
  (.cons (.asg 2 (.lst (.cons false (.cst (.str "a")) (.cons false (.cst (.str "b")) (.cons false (.cst (.str "c")) (.cons false (.cst (.str "ann")) (.cons false (.cst (.str "bob")) (.cons false (.cst (.str "jobs")) (.cons false (.cst (.str "let")) (.cons false (.cst (.str "not")) (.cons false (.cst (.str "as")) (.cons false (.cst (.str "to")) (.cons false (.cst (.str "begin")) (.cons false (.cst (.str "end")) (.cons false (.cst (.str "clean")) (.cons false (.cst (.str "zzzzzzzz")) .nil))))))))))))))))
  (.cons (.ret (.call 23 (.cons false (.var 0) (.cons true (.bin .Add (.var 2) (.lst (.cons false (.cst (.str "no")) (.cons false (.cst (.str "spent")) (.cons false (.cst (.str "free")) (.cons false (.cst (.str "seen")) (.cons false (.cst (.str "same")) (.cons false (.cst (.str "plain")) (.cons false (.cst (.str "undo")) .nil))))))))) (.cons true (.var 1) .nil)))))
  .nil))
def fLawNames : Fn := ⟨2, 3, [], bLawNames⟩
theorem fLawNames_eq : dLawNames.fn = fLawNames := by kernel_rfl
/- 28 ('f', '_law_jobs'): ['_law_pot_here', '_law_most', '_law_manners', '_law_name'] -/
def bLawJobs : Sts :=
  (.cons (.ret (.comp (.tup (.cons false (.var 3) (.cons false (.call 22 (.cons false (.var 0) (.cons true (.var 2) .nil))) .nil))) (.nm 3) (.seq (.call 27 (.cons false (.var 0) (.cons true (.bin .Add (.cst (.int 1)) (.call 21 (.cons false (.var 0) (.cons true (.var 1) .nil)))) .nil)))) .tt [3]))
  .nil)
def fLawJobs : Fn := ⟨3, 4, [], bLawJobs⟩
theorem fLawJobs_eq : dLawJobs.fn = fLawJobs := by kernel_rfl
/- 29 ('f', '_law_any_manners'): [] -/
def bLawAnyManners : Sts :=
  (.cons (.ret (.lst (.cons false (.cst (.str "plain")) (.cons false (.cst (.str "plain")) (.cons false (.cst (.str "clean")) (.cons false (.cst (.str "clean")) (.cons false (.cst (.str "spent")) (.cons false (.cst (.str "free")) .nil))))))))
  .nil)
def fLawAnyManners : Fn := ⟨0, 0, [], bLawAnyManners⟩
theorem fLawAnyManners_eq : dLawAnyManners.fn = fLawAnyManners := by kernel_rfl
/- 30 ('f', '_law_first'): ['_law_jobs_here', '_law_job'] -/
def bLawFirst : Sts :=
  (.cons (.ret (.bi .tuple (.cons false (.comp (.tup (.cons false (.cst (.int 0)) (.cons false (.cst (.int 0)) .nil))) (.nm 1) (.seq (.var 0)) .tt [1]) .nil)))
  .nil)
def fLawFirst : Fn := ⟨1, 2, [], bLawFirst⟩
theorem fLawFirst_eq : dLawFirst.fn = fLawFirst := by kernel_rfl
/- 31 ('f', '_law_is_event'): ['_law_jobs_here', '_law_value', '_law_part', '_law_name', '_law_manner'] -/
def bLawIsEvent : Sts :=
  (.cons (.ifs (.or (.not (.ex (.isi (.var 1) (.inr "tuple")))) (.or (.ex (.cmp .NotEq (.bi .len (.cons false (.var 1) .nil)) (.cst (.int 2)))) (.not (.ex (.bi .all (.cons false (.comp (.isi (.var 2) (.inr "str")) (.nm 2) (.seq (.var 1)) .tt [2]) .nil)))))) (.cons (.ret (.cst (.bl false)))
  .nil) .nil)
  (.cons (.ret (.and (.cmp .In (.ix (.var 1) (.cst (.int 0))) (.tup (.cons false (.cst (.str "begin")) (.cons false (.cst (.str "end")) .nil)))) (.and (.cst (.bl true)) (.cmp .In (.ix (.var 1) (.cst (.int 1))) (.comp (.var 3) (.tp [(.nm 3), (.nm 4)]) (.seq (.var 0)) .tt [3, 4])))))
  .nil))
def fLawIsEvent : Fn := ⟨2, 5, [], bLawIsEvent⟩
theorem fLawIsEvent_eq : dLawIsEvent.fn = fLawIsEvent := by kernel_rfl
/- 32 ('f', '_law_behind'): ['_law_jobs_here', '_law_standing', '_law_event', '_law_at', '_law_begun', '_law_ended', '_law_fresh', '_law_name', '_law_manner'] -/
def bLawBehind : Sts :=
  (.cons (.asg 3 (.m1 .index (.comp (.var 7) (.tp [(.nm 7), (.nm 8)]) (.seq (.var 0)) .tt [7, 8]) (.ix (.var 2) (.cst (.int 1)))))
  (.cons (.asgT (.tp [(.nm 4), (.nm 5)]) (.ix (.var 1) (.var 3)))
  (.cons (.asg 6 (.ite (.ex (.cmp .Eq (.ix (.var 2) (.cst (.int 0))) (.cst (.str "begin")))) (.tup (.cons false (.bin .Add (.var 4) (.cst (.int 1))) (.cons false (.var 5) .nil))) (.tup (.cons false (.var 4) (.cons false (.bin .Add (.var 5) (.cst (.int 1))) .nil)))))
  (.cons (.ret (.bin .Add (.bin .Add (.sl (.var 1) .none (.var 3)) (.tup (.cons false (.var 6) .nil))) (.sl (.var 1) (.bin .Add (.var 3) (.cst (.int 1))) .none)))
  .nil))))
def fLawBehind : Fn := ⟨3, 9, [], bLawBehind⟩
theorem fLawBehind_eq : dLawBehind.fn = fLawBehind := by kernel_rfl
/- 33 ('f', '_law_can_come'): ['_law_jobs_here', '_law_standing', '_law_event', '_law_behind_here', '_law_begun', '_law_ended'] -/
def bLawCanCome : Sts :=
  (.cons (.asg 3 (.call 32 (.cons true (.var 0) (.cons true (.var 1) (.cons true (.var 2) .nil)))))
  (.cons (.ret (.bi .all (.cons false (.comp (.chain .LtE .LtE (.var 5) (.var 4) (.cst (.int 40))) (.tp [(.nm 4), (.nm 5)]) (.seq (.var 3)) .tt [4, 5]) .nil)))
  .nil))
def fLawCanCome : Fn := ⟨3, 6, [], bLawCanCome⟩
theorem fLawCanCome_eq : dLawCanCome.fn = fLawCanCome := by kernel_rfl
/- 34 ('f', '_law_events'): ['_law_jobs_here', '_law_standing', '_law_some_here', '_law_name', '_law_manner', '_law_event'] -/
def bLawEvents : Sts :=
  (.cons (.asg 2 (.lst .nil))
  (.cons (.for_ (.tp [(.nm 3), (.nm 4)]) (.seq (.var 0)) (.cons (.ext 2 (.lst (.cons false (.tup (.cons false (.cst (.str "begin")) (.cons false (.var 3) .nil))) (.cons false (.tup (.cons false (.cst (.str "end")) (.cons false (.var 3) .nil))) .nil))))
  .nil))
  (.cons (.ret (.comp (.var 5) (.nm 5) (.seq (.var 2)) (.ex (.call 33 (.cons true (.var 0) (.cons true (.var 1) (.cons true (.var 5) .nil))))) [5]))
  .nil)))
def fLawEvents : Fn := ⟨2, 6, [2], bLawEvents⟩
theorem fLawEvents_eq : dLawEvents.fn = fLawEvents := by kernel_rfl
/- 35 ('f', '_law_is_row'): ['_law_jobs_here', '_law_value', '_law_event', '_law_standing'] -/
def bLawIsRow : Sts :=
  (.cons (.ifs (.or (.not (.ex (.isi (.var 1) (.inr "tuple")))) (.or (.ex (.cmp .Gt (.bi .len (.cons false (.var 1) .nil)) (.cst (.int 24)))) (.not (.ex (.bi .all (.cons false (.comp (.call 31 (.cons true (.var 0) (.cons true (.var 2) .nil))) (.nm 2) (.seq (.var 1)) .tt [2]) .nil)))))) (.cons (.ret (.cst (.bl false)))
  .nil) .nil)
  (.cons (.asg 3 (.call 30 (.cons true (.var 0) .nil)))
  (.cons (.for_ (.nm 2) (.seq (.var 1)) (.cons (.ifs (.not (.ex (.call 33 (.cons true (.var 0) (.cons true (.var 3) (.cons true (.var 2) .nil)))))) (.cons (.ret (.cst (.bl false)))
  .nil) .nil)
  (.cons (.asg 3 (.call 32 (.cons true (.var 0) (.cons true (.var 3) (.cons true (.var 2) .nil)))))
  .nil)))
  (.cons (.ret (.cst (.bl true)))
  .nil))))
def fLawIsRow : Fn := ⟨2, 4, [], bLawIsRow⟩
theorem fLawIsRow_eq : dLawIsRow.fn = fLawIsRow := by kernel_rfl
/- 36 ('f', '_law_standings'): ['_law_jobs_here', '_law_row_here', '_law_found', '_law_standing', '_law_event'] -/
def bLawStandings : Sts :=
  (.cons (.par [2, 3] (.cons false (.lst .nil) (.cons false (.call 30 (.cons true (.var 0) .nil)) .nil)))
  (.cons (.for_ (.nm 4) (.seq (.var 1)) (.cons (.asg 3 (.call 32 (.cons true (.var 0) (.cons true (.var 3) (.cons true (.var 4) .nil)))))
  (.cons (.app 2 (.var 3))
  .nil)))
  (.cons (.ret (.bi .tuple (.cons false (.var 2) .nil)))
  .nil)))
def fLawStandings : Fn := ⟨2, 5, [2], bLawStandings⟩
theorem fLawStandings_eq : dLawStandings.fn = fLawStandings := by kernel_rfl
/- 37 ('f', '_law_row'): ['_law_pot_here', '_law_jobs_here', '_law_most', '_law_row_here', '_law_standing', '_law_lap'] -/
def bLawRow : Sts :=
  (.cons (.par [3, 4] (.cons false (.lst .nil) (.cons false (.call 30 (.cons true (.var 1) .nil)) .nil)))
  (.cons (.for_ (.nm 5) (.rng1 (.call 21 (.cons false (.var 0) (.cons true (.bin .Add (.var 2) (.cst (.int 1))) .nil)))) (.cons (.app 3 (.call 22 (.cons false (.var 0) (.cons true (.call 34 (.cons true (.var 1) (.cons true (.var 4) .nil))) .nil))))
  (.cons (.asg 4 (.call 32 (.cons true (.var 1) (.cons true (.var 4) (.cons true (.ix (.var 3) (.neg (.cst (.int 1)))) .nil)))))
  .nil)))
  (.cons (.ret (.bi .tuple (.cons false (.var 3) .nil)))
  .nil)))
def fLawRow : Fn := ⟨3, 6, [3], bLawRow⟩
theorem fLawRow_eq : dLawRow.fn = fLawRow := by kernel_rfl
/- 38 ('f', '_law_standing_text'): ['_law_standing', '_law_begun', '_law_ended'] -/
def bLawStandingText : Sts :=
  (.cons (.ret (.m1 .join (.cst (.str " ")) (.comp (.bin .Add (.bin .Add (.bi .str (.cons false (.var 1) .nil)) (.cst (.str " "))) (.bi .str (.cons false (.var 2) .nil))) (.tp [(.nm 1), (.nm 2)]) (.seq (.var 0)) .tt [1, 2])))
  .nil)
def fLawStandingText : Fn := ⟨1, 3, [], bLawStandingText⟩
theorem fLawStandingText_eq : dLawStandingText.fn = fLawStandingText := by kernel_rfl
/- 39 ('f', '_law_fact_line'): ['_law_fact'] -/
def bLawFactLine : Sts :=
  (.cons (.ifs (.ex (.cmp .Eq (.ix (.var 0) (.cst (.int 0))) (.cst (.str "as")))) (.cons (.ret (.bin .Add (.bin .Add (.bin .Add (.cst (.str "as ")) (.call 38 (.cons true (.ix (.var 0) (.cst (.int 1))) .nil))) (.cst (.str " to "))) (.call 38 (.cons true (.ix (.var 0) (.cst (.int 2))) .nil))))
  .nil) .nil)
  (.cons (.ret (.bin .Add (.bin .Add (.ix (.var 0) (.cst (.int 0))) (.cst (.str " "))) (.call 38 (.cons true (.ix (.var 0) (.cst (.int 1))) .nil))))
  .nil))
def fLawFactLine : Fn := ⟨1, 1, [], bLawFactLine⟩
theorem fLawFactLine_eq : dLawFactLine.fn = fLawFactLine := by kernel_rfl
/- 40 ('f', '_law_lines'): ['_law_lore', '_law_found', '_law_name', '_law_manner', '_law_fact'] -/
def bLawLines : Sts :=
  (.cons (.asg 1 (.lst (.cons false (.bin .Add (.cst (.str "jobs ")) (.m1 .join (.cst (.str " ")) (.comp (.var 2) (.tp [(.nm 2), (.nm 3)]) (.seq (.ix (.var 0) (.cst (.str "jobs")))) .tt [2, 3]))) .nil)))
  (.cons (.ext 1 (.comp (.bin .Add (.bin .Add (.var 3) (.cst (.str " "))) (.var 2)) (.tp [(.nm 2), (.nm 3)]) (.seq (.ix (.var 0) (.cst (.str "jobs")))) (.ex (.cmp .NotEq (.var 3) (.cst (.str "plain")))) [2, 3]))
  (.cons (.ret (.bin .Add (.var 1) (.comp (.call 39 (.cons true (.var 4) .nil)) (.nm 4) (.seq (.ix (.var 0) (.cst (.str "facts")))) .tt [4])))
  .nil)))
def fLawLines : Fn := ⟨1, 5, [1], bLawLines⟩
theorem fLawLines_eq : dLawLines.fn = fLawLines := by kernel_rfl
/- 41 ('f', '_law_text'): ['_law_lore'] -/
def bLawText : Sts :=
  (.cons (.ret (.m1 .join (.cst (.str "\n")) (.call 40 (.cons true (.var 0) .nil))))
  .nil)
def fLawText : Fn := ⟨1, 1, [], bLawText⟩
theorem fLawText_eq : dLawText.fn = fLawText := by kernel_rfl
/- 42 ('f', '_law_book'): ['_law_lore'] -/
def bLawBook : Sts :=
  (.cons (.ret (.make 6 (.cons true (.call 41 (.cons true (.var 0) .nil)) .nil)))
  .nil)
def fLawBook : Fn := ⟨1, 1, [], bLawBook⟩
theorem fLawBook_eq : dLawBook.fn = fLawBook := by kernel_rfl
/- 43 ('f', '_law_long_row'): ['_law_pot_here', '_law_jobs_here', '_law_many', '_law_row_here', '_law_standing', '_law_lap'] -/
def bLawLongRow : Sts :=
  (.cons (.par [3, 4] (.cons false (.lst .nil) (.cons false (.call 30 (.cons true (.var 1) .nil)) .nil)))
  (.cons (.for_ (.nm 5) (.rng1 (.var 2)) (.cons (.app 3 (.call 22 (.cons false (.var 0) (.cons true (.call 34 (.cons true (.var 1) (.cons true (.var 4) .nil))) .nil))))
  (.cons (.asg 4 (.call 32 (.cons true (.var 1) (.cons true (.var 4) (.cons true (.ix (.var 3) (.neg (.cst (.int 1)))) .nil)))))
  .nil)))
  (.cons (.ret (.bi .tuple (.cons false (.var 3) .nil)))
  .nil)))
def fLawLongRow : Fn := ⟨3, 6, [3], bLawLongRow⟩
theorem fLawLongRow_eq : dLawLongRow.fn = fLawLongRow := by kernel_rfl
/- 44 ('f', '_law_near'): ['_law_pot_here', '_law_jobs_here', '_law_row_here', '_law_name', '_law_at', '_law_found', '_law_event', '_law_lap'] -/
def bLawNear : Sts :=
  (.cons (.par [3, 4] (.cons false (.ix (.ix (.var 1) (.cst (.int 0))) (.cst (.int 0))) (.cons false (.call 21 (.cons false (.var 0) (.cons true (.bin .Add (.bi .len (.cons false (.var 2) .nil)) (.cst (.int 1))) .nil))) .nil)))
  (.cons (.asg 5 (.lst (.cons false (.var 2) (.cons false (.bi .list (.cons false (.var 2) .nil)) (.cons false (.bin .Add (.sl (.var 2) .none (.var 4)) (.sl (.var 2) (.bin .Add (.var 4) (.cst (.int 1))) .none)) (.cons false (.bin .Add (.bin .Add (.sl (.var 2) .none (.var 4)) (.sl (.var 2) (.var 4) (.bin .Add (.var 4) (.cst (.int 1))))) (.sl (.var 2) (.var 4) .none)) (.cons false (.rev (.var 2)) (.cons false (.tup .nil) (.cons false (.cst .non) (.cons false (.var 3) .nil))))))))))
  (.cons (.for_ (.nm 6) (.seq (.tup (.cons false (.tup (.cons false (.cst (.str "end")) (.cons false (.var 3) .nil))) (.cons false (.tup (.cons false (.cst (.str "begin")) (.cons false (.cst (.str "nosuch")) .nil))) (.cons false (.tup (.cons false (.cst (.str "Begin")) (.cons false (.var 3) .nil))) (.cons false (.lst (.cons false (.cst (.str "begin")) (.cons false (.var 3) .nil))) (.cons false (.tup (.cons false (.cst (.str "begin")) .nil)) (.cons false (.cst (.str "begin")) (.cons false (.cst .non) .nil))))))))) (.cons (.app 5 (.bin .Add (.bin .Add (.sl (.var 2) .none (.var 4)) (.tup (.cons false (.var 6) .nil))) (.sl (.var 2) (.var 4) .none)))
  .nil))
  (.cons (.ext 5 (.lst (.cons false (.bin .Add (.var 2) (.tup (.cons false (.tup (.cons false (.cst (.str "begin")) (.cons false (.var 3) .nil))) (.cons false (.tup (.cons false (.cst (.str "end")) (.cons false (.var 3) .nil))) .nil)))) (.cons false (.bin .Add (.tup (.cons false (.tup (.cons false (.cst (.str "end")) (.cons false (.var 3) .nil))) (.cons false (.tup (.cons false (.cst (.str "begin")) (.cons false (.var 3) .nil))) .nil))) (.var 2)) (.cons false (.tup (.cons false (.cst (.str "begin")) (.cons false (.var 3) .nil))) .nil)))))
  (.cons (.ext 5 (.lst (.cons false (.bin .Add (.bin .Add (.sl (.var 2) .none (.var 4)) (.tup (.cons false (.tup (.cons false (.cst (.str "begin")) (.cons false (.var 3) (.cons false (.cst (.int 0)) .nil)))) .nil))) (.sl (.var 2) (.var 4) .none)) (.cons false (.call 25 (.cons false (.var 0) .nil)) .nil))))
  (.cons (.ret (.bin .Add (.var 5) (.comp (.call 26 (.cons false (.var 0) (.cons true (.var 2) .nil))) (.nm 7) (.rng1 (.cst (.int 4))) .tt [7])))
  .nil))))))
def fLawNear : Fn := ⟨3, 8, [5], bLawNear⟩
theorem fLawNear_eq : dLawNear.fn = fLawNear := by kernel_rfl
/- 45 ('f', '_law_right'): ['_law_pot_here', '_law_jobs_here', '_law_rows', '_law_row_here', '_law_caught', '_law_told_here', '_law_book_here', '_law_value'] -/
def bLawRight : Sts :=
  (.cons (.asg 1 (.call 28 (.cons false (.var 0) (.cons true (.cst (.int 4)) (.cons true (.call 29 .nil) .nil)))))
  (.cons (.asg 6 (.call 42 (.cons true (.dic [.inr "jobs", .inr "facts"] (.cons false (.var 1) (.cons false (.lst .nil) .nil))) .nil)))
  (.cons (.asg 2 (.lst (.cons false (.call 37 (.cons false (.var 0) (.cons true (.var 1) (.cons true (.cst (.int 24)) .nil)))) (.cons false (.call 43 (.cons false (.var 0) (.cons true (.var 1) (.cons true (.cst (.int 24)) .nil)))) (.cons false (.call 43 (.cons false (.var 0) (.cons true (.var 1) (.cons true (.cst (.int 25)) .nil)))) .nil)))))
  (.cons (.for_ (.nm 3) (.seq (.var 2)) (.cons (.for_ (.nm 7) (.seq (.call 44 (.cons false (.var 0) (.cons true (.var 1) (.cons true (.var 3) .nil))))) (.cons (.asgT (.tp [(.nm 4), (.nm 5)]) (.told 0 (.call 19 (.cons true (.var 6) (.cons true (.var 7) .nil)))))
  (.cons (.ifs (.ex (.call 35 (.cons true (.var 1) (.cons true (.var 7) .nil)))) (.cons (.ifs (.or (.ex (.cmp .IsNot (.var 4) (.cst .non))) (.ex (.cmp .NotEq (.bi .repr (.cons false (.var 5) .nil)) (.bi .repr (.cons false (.call 36 (.cons true (.var 1) (.cons true (.var 7) .nil))) .nil))))) (.cons (.ret (.cst (.bl false)))
  .nil) .nil)
  .nil) (.cons (.ifs (.or (.not (.ex (.isi (.var 4) (.inl 5)))) (.ex (.cmp .NotEq (.bi .repr (.cons false (.fld (.var 4) 0) .nil)) (.bi .repr (.cons false (.var 7) .nil))))) (.cons (.ret (.cst (.bl false)))
  .nil) .nil)
  .nil))
  .nil)))
  .nil))
  (.cons (.ret (.cmp .Eq (.bi .len (.cons false (.call 19 (.cons true (.var 6) (.cons true (.ix (.var 2) (.cst (.int 1))) .nil))) .nil)) (.cst (.int 24))))
  .nil)))))
def fLawRight : Fn := ⟨1, 8, [], bLawRight⟩
theorem fLawRight_eq : dLawRight.fn = fLawRight := by kernel_rfl
/- 46 ('f', 'law'): ['_law_script', '_law_place', '_law_pot_here', '_law_lap'] -/
def bLaw : Sts :=
  (.cons (.for_ (.nm 1) (.seq (.call 24 (.cons true (.var 0) (.cons true (.cst (.int 4)) .nil)))) (.cons (.asg 2 (.call 20 (.cons true (.var 0) (.cons true (.var 1) .nil))))
  (.cons (.ifs (.not (.ex (.bi .all (.cons false (.comp (.call 45 (.cons false (.var 2) .nil)) (.nm 3) (.rng1 (.cst (.int 3))) .tt [3]) .nil)))) (.cons (.ret (.cst (.bl false)))
  .nil) .nil)
  .nil)))
  (.cons (.ret (.cst (.bl true)))
  .nil))
def fLaw : Fn := ⟨1, 4, [2], bLaw⟩
theorem fLaw_eq : dLaw.fn = fLaw := by kernel_rfl
def fns : List Fn := [fIsTuple, fIsWord, fIsName, fNumberIn, fAreUnlike, fIsStanding, fIsFact, fJobsIn] ++ [dStandingIn.fn, fFactIn, fFirstFull, fTaken, fRead, fBookInit, fBookJobs, fIsEvent] ++ [fCanCome, fBehind, fWalked, fStandings, fLawPot, fLawTake, fLawOf, fLawSome] ++ [fLawCells, fLawOdd, fLawBent, fLawNames, fLawJobs, fLawAnyManners, fLawFirst, fLawIsEvent] ++ [fLawBehind, fLawCanCome, fLawEvents, fLawIsRow, fLawStandings, fLawRow, fLawStandingText, fLawFactLine] ++ [fLawLines, fLawText, fLawBook, fLawLongRow, fLawNear, fLawRight, fLaw]
theorem fns_eq : defs.map (fun l : LDef => l.fn) = fns := by
  show [dIsTuple.fn, dIsWord.fn, dIsName.fn, dNumberIn.fn, dAreUnlike.fn, dIsStanding.fn, dIsFact.fn, dJobsIn.fn, dStandingIn.fn, dFactIn.fn, dFirstFull.fn, dTaken.fn, dRead.fn, dBookInit.fn, dBookJobs.fn, dIsEvent.fn, dCanCome.fn, dBehind.fn, dWalked.fn, dStandings.fn, dLawPot.fn, dLawTake.fn, dLawOf.fn, dLawSome.fn, dLawCells.fn, dLawOdd.fn, dLawBent.fn, dLawNames.fn, dLawJobs.fn, dLawAnyManners.fn, dLawFirst.fn, dLawIsEvent.fn, dLawBehind.fn, dLawCanCome.fn, dLawEvents.fn, dLawIsRow.fn, dLawStandings.fn, dLawRow.fn, dLawStandingText.fn, dLawFactLine.fn, dLawLines.fn, dLawText.fn, dLawBook.fn, dLawLongRow.fn, dLawNear.fn, dLawRight.fn, dLaw.fn] = _
  rw [fIsTuple_eq, fIsWord_eq, fIsName_eq, fNumberIn_eq, fAreUnlike_eq, fIsStanding_eq, fIsFact_eq, fJobsIn_eq, fFactIn_eq, fFirstFull_eq, fTaken_eq, fRead_eq, fBookInit_eq, fBookJobs_eq, fIsEvent_eq, fCanCome_eq, fBehind_eq, fWalked_eq, fStandings_eq, fLawPot_eq, fLawTake_eq, fLawOf_eq, fLawSome_eq, fLawCells_eq, fLawOdd_eq, fLawBent_eq, fLawNames_eq, fLawJobs_eq, fLawAnyManners_eq, fLawFirst_eq, fLawIsEvent_eq, fLawBehind_eq, fLawCanCome_eq, fLawEvents_eq, fLawIsRow_eq, fLawStandings_eq, fLawRow_eq, fLawStandingText_eq, fLawFactLine_eq, fLawLines_eq, fLawText_eq, fLawBook_eq, fLawLongRow_eq, fLawNear_eq, fLawRight_eq, fLaw_eq]
  rfl
end L05
set_option Elab.async false
set_option linter.all false
set_option maxRecDepth 100000
set_option maxHeartbeats 2000000
/-! evaluation: comprehensions whose turns leave nothing behind -/
namespace Eg
open PySem
theorem compGo_pure {own : List Nat} {tg : Tg} {cond : Eg.Env → Out Bool} {elt : Eg.Env → Out D} (ρ0 : Eg.Env) (p : D → Bool) (f : D → D) : ∀ (xs : List D) (ρ : Eg.Env) (acc : List D),
    (∀ x ∈ xs, ∃ ρ1 ρ2, asgTg tg x ρ0 = some ρ1 ∧ cond ρ1 = .ok (p x) ρ2 ∧ wipeE ρ2 own = ρ0 ∧ (p x = true → ∃ ρ3, elt ρ2 = .ok (f x) ρ3 ∧ wipeE ρ3 own = ρ0)) → wipeE ρ own = ρ0 →
    ∃ ρ', compGo own tg cond elt xs ρ acc = .ok (acc ++ (xs.filter p).map f) ρ' ∧ wipeE ρ' own = ρ0
  | [], ρ, acc, _, hw => ⟨ρ, by simp [compGo], hw⟩
  | x :: xs, ρ, acc, h, hw => by
    obtain ⟨ρ1, ρ2, e1, e2, w2, e3⟩ := h x List.mem_cons_self
    have hr := fun y hy => h y (List.mem_cons_of_mem x hy)
    cases hp : p x with
    | false =>
      obtain ⟨ρ', e4, h4⟩ := compGo_pure ρ0 p f xs ρ2 acc hr w2
      refine ⟨ρ', ?_, h4⟩
      rw [hp] at e2
      simp only [compGo, hw, e1, e2, e4, List.filter_cons, hp, Bool.false_eq_true, if_false]
    | true =>
      obtain ⟨ρ3, e5, w3⟩ := e3 hp
      obtain ⟨ρ', e4, h4⟩ := compGo_pure ρ0 p f xs ρ3 (acc ++ [f x]) hr w3
      refine ⟨ρ', ?_, h4⟩
      rw [hp] at e2
      simp only [compGo, hw, e1, e2, e5, e4, List.filter_cons, hp, if_true, List.map_cons, List.append_assoc, List.singleton_append]
/-- a comprehension as a whole: it leaves the environment as it was -/
theorem comp_pure {S : Stat} {R : D → Option Str} {F : Nat → Eg.Env → OutF} {elt : Ex} {tg : Tg} {it : It} {cond : Cn} {own : List Nat} {ρ ρ0 : Eg.Env} {xs : List D} (p : D → Bool) (f : D → D)
    (hit : evIt S R F it ρ = .ok xs ρ) (hno : noOwn ρ own = true) (htg : tg.within own = true) (hf : fits xs.length = true) (hw : wipeE ρ own = ρ0) (hb : backE ρ ρ0 own = ρ)
    (st : ∀ x ∈ xs, ∃ ρ1 ρ2, asgTg tg x ρ0 = some ρ1 ∧ evC S R F cond ρ1 = .ok (p x) ρ2 ∧ wipeE ρ2 own = ρ0 ∧ (p x = true → ∃ ρ3, freezeO (evE S R F elt ρ2) = .ok (f x) ρ3 ∧ wipeE ρ3 own = ρ0)) :
    evE S R F (.comp elt tg it cond own) ρ = .ok (.lst (((xs.filter p).map f).map .fr)) ρ := by
  obtain ⟨ρ', e1, w1⟩ := compGo_pure (own := own) (tg := tg) (cond := fun ρ => evC S R F cond ρ) (elt := fun ρ => freezeO (evE S R F elt ρ)) ρ0 p f xs ρ [] st hw
  simp only [evE, hit, Out.bind, hno, htg, hf, Bool.and_self, if_true, e1, w1, hb, List.nil_append]
/-- a for loop: what holds ahead of every turn; a turn goes on, or gives the def's value -/
theorem forGo_inv {tg : Tg} {body : Eg.Env → SO} (P : List D → Eg.Env → Prop) (Z : T → Eg.Env → Prop)
    (st : ∀ x xs ρ, P (x :: xs) ρ → ∃ ρ1, asgTg tg x ρ = some ρ1 ∧ ((∃ ρ2, body ρ1 = .next ρ2 ∧ P xs ρ2) ∨ ∃ t ρ2, body ρ1 = .ret t ρ2 ∧ Z t ρ2)) : ∀ (xs : List D) (ρ : Eg.Env), P xs ρ →
    (∃ ρ', forGo tg body xs ρ = .next ρ' ∧ P [] ρ') ∨ ∃ t ρ', forGo tg body xs ρ = .ret t ρ' ∧ Z t ρ'
  | [], ρ, h => .inl ⟨ρ, rfl, h⟩
  | x :: xs, ρ, h => by
    obtain ⟨ρ1, e1, q⟩ := st x xs ρ h
    rcases q with ⟨ρ2, e2, h2⟩ | ⟨t, ρ2, e2, z⟩
    · rcases forGo_inv P Z st xs ρ2 h2 with ⟨ρ', e3, h3⟩ | ⟨t, ρ', e3, z⟩
      · exact .inl ⟨ρ', by simp only [forGo, e1, e2, e3], h3⟩
      · exact .inr ⟨t, ρ', by simp only [forGo, e1, e2, e3], z⟩
    · exact .inr ⟨t, ρ2, by simp only [forGo, e1, e2], z⟩
end Eg
set_option Elab.async false
set_option linter.all false
set_option maxRecDepth 100000
set_option maxHeartbeats 4000000
/-! what holds behind an evaluation -/
namespace Eg
open PySem
def Out.wp {α : Type} (o : Out α) (Q : α → Env → Prop) (X : D → Env → Prop) : Prop := match o with
  | .ok a ρ => Q a ρ
  | .exc d ρ => X d ρ
  | .bad => False
def SO.wp (o : SO) (N : Env → Prop) (Rt : T → Env → Prop) (X : D → Env → Prop) (L : Bool → Env → Prop) : Prop := match o with
  | .next ρ => N ρ
  | .ret t ρ => Rt t ρ
  | .exc d ρ => X d ρ
  | .brk ρ => L true ρ
  | .cnt ρ => L false ρ
  | .bad => False
@[irreducible] def OutF.wp (o : OutF) (Q : T → Env → Prop) (X : D → Env → Prop) : Prop := match o with
  | .ret t fin => Q t fin
  | .exc d fin => X d fin
  | .bad => False
/-- what simp leaves alone -/
inductive Tag (p : Prop) : Type where
  | mk
def Hid (p : Prop) (_ : Tag p) : Prop := p
theorem hid {p : Prop} {t : Tag p} (h : p) : Hid p t := h
def TryO {α : Type} (o : Option α) (P : α → Prop) : Prop := match o with
  | some t => P t
  | none => False
@[simp] theorem tryO_some {α : Type} {t : α} {P : α → Prop} : TryO (some t) P = P t := rfl
@[simp] theorem tryO_none {α : Type} {P : α → Prop} : TryO none P = False := rfl
@[simp] theorem tryO_ite {α : Type} {c : Prop} [Decidable c] {a b : Option α} {P : α → Prop} : TryO (if c then a else b) P = if c then TryO a P else TryO b P := by split <;> rfl
@[simp] theorem tryO_map {α β : Type} {o : Option α} {f : α → β} {P : β → Prop} : TryO (o.map f) P = TryO o fun a => P (f a) := by cases o <;> rfl
@[simp] theorem tryO_bind {α β : Type} {o : Option α} {f : α → Option β} {P : β → Prop} : TryO (o.bind f) P = TryO o fun a => TryO (f a) P := by cases o <;> rfl
abbrev noX : D → Env → Prop := fun _ _ => False
abbrev noL : Bool → Env → Prop := fun _ _ => False
section
variable {α β : Type} {S : Stat} {R : D → Option Str} {F : Nat → Env → OutF} {n : Nat} {io kp : List Nat} {ρ : Env} {Q : α → Env → Prop} {X : D → Env → Prop} {N : Env → Prop} {Rt : T → Env → Prop} {L : Bool → Env → Prop}
@[simp] theorem wp_ok {a : α} : (Out.ok a ρ).wp Q X = Q a ρ := rfl
@[simp] theorem wp_exc {d : D} : (Out.exc (α := α) d ρ).wp Q X = X d ρ := rfl
@[simp] theorem wp_bad : (Out.bad (α := α)).wp Q X = False := rfl
@[simp] theorem wp_bind {o : Out β} {f : β → Env → Out α} : (o.bind f).wp Q X = o.wp (fun a ρ => (f a ρ).wp Q X) X := by cases o <;> rfl
@[simp] theorem wp_freeze {o : Out T} {Q : D → Env → Prop} : (freezeO o).wp Q X = o.wp (fun t ρ => Q t.toD ρ) X := by cases o <;> rfl
@[simp] theorem wp_ite {c : Prop} [Decidable c] {a b : Out α} : (if c then a else b).wp Q X = if c then a.wp Q X else b.wp Q X := by split <;> rfl
@[simp] theorem so_next : (SO.next ρ).wp N Rt X L = N ρ := rfl
@[simp] theorem so_ret {t : T} : (SO.ret t ρ).wp N Rt X L = Rt t ρ := rfl
@[simp] theorem so_exc {d : D} : (SO.exc d ρ).wp N Rt X L = X d ρ := rfl
@[simp] theorem so_bad : (SO.bad).wp N Rt X L = False := rfl
@[simp] theorem so_brk : (SO.brk ρ).wp N Rt X L = L true ρ := rfl
@[simp] theorem so_cnt : (SO.cnt ρ).wp N Rt X L = L false ρ := rfl
@[simp] theorem so_of {o : Out α} {f : α → Env → SO} : (SO.of o f).wp N Rt X L = o.wp (fun a ρ => (f a ρ).wp N Rt X L) X := by cases o <;> rfl
@[simp] theorem so_ite {c : Prop} [Decidable c] {a b : SO} : (if c then a else b).wp N Rt X L = if c then a.wp N Rt X L else b.wp N Rt X L := by split <;> rfl
@[simp] theorem f_ret {t : T} {Q : T → Env → Prop} : (OutF.ret t ρ).wp Q X = Q t ρ := by unfold OutF.wp; rfl
@[simp] theorem f_exc {d : D} {Q : T → Env → Prop} : (OutF.exc d ρ).wp Q X = X d ρ := by unfold OutF.wp; rfl
@[simp] theorem f_bad {Q : T → Env → Prop} : (OutF.bad).wp Q X = False := by unfold OutF.wp; rfl
theorem Out.wp.mono {o : Out α} {Q' : α → Env → Prop} {X' : D → Env → Prop} (h : o.wp Q X) (q : ∀ a ρ, Q a ρ → Q' a ρ) (x : ∀ d ρ, X d ρ → X' d ρ) : o.wp Q' X' := by
  cases o with
  | ok a ρ => exact q _ _ h
  | exc d ρ => exact x _ _ h
  | bad => exact h
theorem OutF.wp.mono {o : OutF} {Q Q' : T → Env → Prop} {X' : D → Env → Prop} (h : o.wp Q X) (q : ∀ a ρ, Q a ρ → Q' a ρ) (x : ∀ d ρ, X d ρ → X' d ρ) : o.wp Q' X' := by
  cases o with
  | ret a ρ => rw [f_ret] at h ⊢; exact q _ _ h
  | exc d ρ => rw [f_exc] at h ⊢; exact x _ _ h
  | bad => rw [f_bad] at h; exact h.elim
/-- a promise is used: nothing is raised -/
theorem OutF.wp.use {o : OutF} {Q Q' : T → Env → Prop} {X' : D → Env → Prop} (h : o.wp Q noX) (q : ∀ a ρ, Q a ρ → Q' a ρ) : o.wp Q' X' := h.mono q fun _ _ z => z.elim
theorem Out.wp.use {o : Out α} {Q' : α → Env → Prop} {X' : D → Env → Prop} (h : o.wp Q noX) (q : ∀ a ρ, Q a ρ → Q' a ρ) : o.wp Q' X' := h.mono q fun _ _ z => z.elim
theorem SO.wp.mono {o : SO} {N' : Env → Prop} {Rt' : T → Env → Prop} {X' : D → Env → Prop} {L' : Bool → Env → Prop} (h : o.wp N Rt X L) (a : ∀ ρ, N ρ → N' ρ) (b : ∀ t ρ, Rt t ρ → Rt' t ρ) (c : ∀ d ρ, X d ρ → X' d ρ) (e : ∀ k ρ, L k ρ → L' k ρ) : o.wp N' Rt' X' L' := by
  cases o with
  | next ρ => exact a _ h
  | ret t ρ => exact b _ _ h
  | exc d ρ => exact c _ _ h
  | brk ρ => exact e _ _ h
  | cnt ρ => exact e _ _ h
  | bad => exact h
theorem eq_of_wp {o : OutF} {v : T} {fin : Env} (h : o.wp (fun t f => t = v ∧ f = fin) noX) : o = .ret v fin := by
  cases o with
  | ret t f => rw [f_ret] at h; obtain ⟨rfl, rfl⟩ := h; rfl
  | exc d ρ => rw [f_exc] at h; exact h.elim
  | bad => rw [f_bad] at h; exact h.elim
theorem exc_of_wp {o : OutF} {v : D} {fin : Env} (h : o.wp (fun _ _ => False) (fun t f => t = v ∧ f = fin)) : o = .exc v fin := by
  cases o with
  | ret t f => rw [f_ret] at h; exact h.elim
  | exc d ρ => rw [f_exc] at h; obtain ⟨rfl, rfl⟩ := h; rfl
  | bad => rw [f_bad] at h; exact h.elim
theorem wp_of_eq {o : OutF} {v : T} {fin : Env} (h : o = .ret v fin) : o.wp (fun t f => t = v ∧ f = fin) noX := by rw [h, f_ret]; exact ⟨rfl, rfl⟩
/-! ### defs and calls -/
theorem fn_wp {fn : Fn} {args : Env} {Q : T → Env → Prop} (h : args.length = fn.np) (H : (evSs S R F n (ownsAt 0 args) fn.kp fn.body (args ++ List.replicate (fn.nl - fn.np) .unb)).wp (fun ρ => Hid (Q (.fr .non) (finOf args ρ)) .mk) (fun t ρ => Hid (Q t (finOf args ρ)) .mk) (fun d ρ => Hid (X d (finOf args ρ)) .mk) noL) : (evFn S R n F fn args).wp Q X := by
  unfold evFn
  rw [if_pos h]
  generalize evSs S R F n (ownsAt 0 args) fn.kp fn.body (args ++ List.replicate (fn.nl - fn.np) .unb) = o at H
  cases o with
  | next ρ => dsimp only; rw [f_ret]; exact H
  | ret t ρ => dsimp only; rw [f_ret]; exact H
  | exc d ρ => dsimp only; rw [f_exc]; exact H
  | brk ρ => exact H.elim
  | cnt ρ => exact H.elim
  | bad => exact H.elim
theorem f_wp {fns : List Fn} {k f : Nat} {fn : Fn} {args : Env} {Q : T → Env → Prop} (hf : fns[f]? = some fn) (h : args.length = fn.np) (H : (evSs S R (evF S R n fns k) n (ownsAt 0 args) fn.kp fn.body (args ++ List.replicate (fn.nl - fn.np) .unb)).wp (fun ρ => Hid (Q (.fr .non) (finOf args ρ)) .mk) (fun t ρ => Hid (Q t (finOf args ρ)) .mk) (fun d ρ => Hid (X d (finOf args ρ)) .mk) noL) : (evF S R n fns (k + 1) f args).wp Q X := by
  rw [evF_at hf]
  exact fn_wp h H
@[simp] theorem call_wp {f : Nat} {as : List Ar} {Q : T → Env → Prop} : (callF F f as ρ).wp Q X = match arSl ρ as with
    | some (args, o) => (F f args).wp (fun t fin => (Out.of' t (backAr ρ fin o)).wp Q X) (fun d fin => (Out.ofX (α := T) d (backAr ρ fin o)).wp Q X)
    | none => False := by
  unfold callF
  cases arSl ρ as with
  | none => rfl
  | some p =>
    obtain ⟨args, o⟩ := p
    dsimp only
    generalize F f args = r
    cases r <;> dsimp only <;> simp only [f_ret, f_exc, f_bad, wp_bad]
@[simp] theorem make_wp {c : Nat} {as : List Ar} {Q : T → Env → Prop} : (makeF S F c as ρ).wp Q X = match S.init c, arSl ρ as with
    | some f, some (args, none) => (F f (.own (.ins c []) :: args)).wp (fun t fin => match t, fin with
        | .fr .non, .own t :: _ => Q t ρ
        | _, _ => False) (fun d _ => X d ρ)
    | _, _ => False := by
  unfold makeF
  cases S.init c with
  | none => rfl
  | some f =>
    cases arSl ρ as with
    | none => rfl
    | some p =>
      obtain ⟨args, o⟩ := p
      cases o with
      | some o => rfl
      | none =>
        show (match F f (.own (.ins c []) :: args) with
          | .ret (.fr .non) (.own t :: _) => Out.ok t ρ
          | .exc d _ => .exc d ρ
          | _ => .bad).wp Q X = (F f (.own (.ins c []) :: args)).wp (fun t fin => match t, fin with
        | .fr .non, .own t :: _ => Q t ρ
        | _, _ => False) (fun d _ => X d ρ)
        generalize F f (.own (.ins c []) :: args) = r
        cases r with
        | ret t fin =>
          rw [f_ret]
          cases t with
          | fr d =>
            cases d with
            | non =>
              cases fin with
              | nil => rfl
              | cons s fin => cases s <;> rfl
            | _ => rfl
          | _ => rfl
        | exc d fin => rw [f_exc]; rfl
        | bad => rw [f_bad]; rfl
@[simp] theorem told_wp {c : Nat} {o : Out D} {Q : T → Env → Prop} : (toldO S c o).wp Q X = o.wp (fun d ρ => Q (.fr (.tup [.non, d])) ρ) (fun d ρ => match d with
    | .exc k d => if decide (k < S.nC) && decide (c < S.nC) && S.isX k && S.sub k c then Q (.fr (.tup [.exc k d, .non])) ρ else False
    | _ => False) := by
  cases o with
  | ok d ρ => rfl
  | bad => rfl
  | exc d ρ =>
    cases d with
    | exc k d =>
      show (if decide (k < S.nC) && decide (c < S.nC) && S.isX k && S.sub k c then Out.ok (.fr (.tup [.exc k d, .non])) ρ else .bad).wp Q X = _
      rw [wp_ite]; rfl
    | _ => rfl
/-! ### statements -/
@[simp] theorem w_nil : (evSs S R F n io kp .nil ρ).wp N Rt X L = N ρ := by simp only [evSs, so_next] <;> rfl
@[simp] theorem w_cons {s : St} {r : Sts} : (evSs S R F n io kp (.cons s r) ρ).wp N Rt X L = (evS S R F n io kp s ρ).wp (fun ρ => (evSs S R F n io kp r ρ).wp N Rt X L) Rt X L := by
  simp only [evSs]
  cases evS S R F n io kp s ρ <;> rfl
@[simp] theorem s_ifs {c : Cn} {a b : Sts} : (evS S R F n io kp (.ifs c a b) ρ).wp N Rt X L = (evC S R F c ρ).wp (fun k ρ => if k then (evSs S R F n io kp a ρ).wp N Rt X L else (evSs S R F n io kp b ρ).wp N Rt X L) X := by
  simp only [evS, so_of]
  congr 1
  funext k ρ
  cases k <;> rfl
@[simp] theorem s_asg {i : Nat} {e : Ex} : evS S R F n io kp (.asg i e) ρ = SO.of (evE S R F e ρ) fun t ρ => store io kp i t ρ := by simp only [evS] <;> rfl
@[simp] theorem s_asgT {tg : Tg} {e : Ex} : (evS S R F n io kp (.asgT tg e) ρ).wp N Rt X L = (evE S R F e ρ).wp (fun d ρ => tg.free io = true ∧ TryO (asgTg tg d.toD ρ) N) X := by
  simp only [evS, so_of, wp_freeze, so_ite]
  congr 1
  funext t ρ
  cases h : tg.free io
  · simp
  · simp only [if_true, true_and]
    cases asgTg tg t.toD ρ <;> rfl
@[simp] theorem s_par {is : List Nat} {es : Exs} : evS S R F n io kp (.par is es) ρ = SO.of (evAs S R F es ρ) fun as ρ => parS io kp is as ρ := by simp only [evS] <;> rfl
@[simp] theorem s_expr {e : Ex} : evS S R F n io kp (.expr e) ρ = SO.of (evE S R F e ρ) fun _ ρ => .next ρ := by simp only [evS] <;> rfl
@[simp] theorem s_ret {e : Ex} : evS S R F n io kp (.ret e) ρ = match varOf e with
    | some i => if io.contains i then SO.of (evE S R F (.var i) ρ) fun t ρ => .ret t ρ else match ρ[i]? with
      | some (.own t) => .ret t (ρ.set i .unb)
      | some (.val d) => .ret (.fr d) ρ
      | _ => .bad
    | none => SO.of (evE S R F e ρ) fun t ρ => .ret t ρ := by
  cases e with
  | var i => simp only [evS]; rfl
  | _ => simp only [evS]; rfl
@[simp] theorem s_raise {c : Nat} {e : Ex} : evS S R F n io kp (.raise c e) ρ = SO.of (freezeO (evE S R F e ρ)) fun d ρ => .exc (.exc c d) ρ := by simp only [evS] <;> rfl
@[simp] theorem s_pass : evS S R F n io kp .pass ρ = .next ρ := by simp only [evS] <;> rfl
@[simp] theorem s_brk : evS S R F n io kp .brk ρ = .brk ρ := by simp only [evS] <;> rfl
@[simp] theorem s_cnt : evS S R F n io kp .cnt ρ = .cnt ρ := by simp only [evS] <;> rfl
@[simp] theorem s_app {i : Nat} {e : Ex} : (evS S R F n io kp (.app i e) ρ).wp N Rt X L = (isLstS ρ[i]? = true ∧ (evE S R F e ρ).wp (fun t ρ => match ρ[i]? with
    | some (.own (.lst ts)) => if ts.length < 16777216 then N (ρ.set i (.own (.lst (ts ++ [.fr t.toD])))) else False
    | _ => False) X) := by
  simp only [evS]
  cases h : isLstS ρ[i]?
  · simp
  · simp only [Bool.not_true, Bool.false_eq_true, if_false, so_of, wp_freeze, true_and]
    congr 1
    funext t ρ
    generalize ρ[i]? = s
    cases s with
    | none => rfl
    | some s =>
      cases s with
      | own t =>
        cases t with
        | lst ts => dsimp only; rw [so_ite]; rfl
        | _ => rfl
      | _ => rfl
@[simp] theorem s_ext {i : Nat} {e : Ex} : (evS S R F n io kp (.ext i e) ρ).wp N Rt X L = (isLstS ρ[i]? = true ∧ (evE S R F e ρ).wp (fun t ρ => (extS i t ρ).wp N Rt X L) X) := by
  simp only [evS]
  cases h : isLstS ρ[i]?
  · simp
  · simp
/-- a walk: what holds ahead of each turn -/
theorem for_wp {tg : Tg} {body : Env → SO} (I : List D → Env → Prop) (ex : ∀ ρ, I [] ρ → N ρ)
    (turn : ∀ x xs ρ, I (x :: xs) ρ → ∃ ρ1, asgTg tg x ρ = some ρ1 ∧ (body ρ1).wp (fun ρ => Hid (I xs ρ) .mk) Rt X (fun b ρ => if b then N ρ else Hid (I xs ρ) .mk)) : ∀ (xs : List D) (ρ : Env), I xs ρ → (forGo tg body xs ρ).wp N Rt X L
  | [], ρ, h => by simp only [forGo, so_next]; exact ex ρ h
  | x :: xs, ρ, h => by
    obtain ⟨ρ1, e, q⟩ := turn x xs ρ h
    simp only [forGo, e]
    generalize body ρ1 = o at q
    cases o with
    | next ρ2 => exact for_wp I ex turn xs ρ2 q
    | cnt ρ2 => exact for_wp I ex turn xs ρ2 q
    | brk ρ2 => exact q
    | ret t ρ2 => exact q
    | exc d ρ2 => exact q
    | bad => exact q
theorem forT_wp {γ : Type} {enc : γ → D} {tg : Tg} {body : Env → SO} (I : List γ → Env → Prop) (ex : ∀ ρ, I [] ρ → N ρ)
    (turn : ∀ x xs ρ, I (x :: xs) ρ → ∃ ρ1, asgTg tg (enc x) ρ = some ρ1 ∧ (body ρ1).wp (fun ρ => Hid (I xs ρ) .mk) Rt X (fun b ρ => if b then N ρ else Hid (I xs ρ) .mk)) (xs : List γ) (ρ : Env) (h : I xs ρ) : (forGo tg body (xs.map enc) ρ).wp N Rt X L := by
  refine for_wp (fun ys ρ => ∃ xs, ys = xs.map enc ∧ I xs ρ) ?_ ?_ _ _ ⟨xs, rfl, h⟩
  · rintro ρ ⟨xs, e, h⟩
    cases xs with
    | nil => exact ex ρ h
    | cons x xs => simp at e
  · rintro y ys ρ ⟨xs, e, h⟩
    cases xs with
    | nil => simp at e
    | cons x xs =>
      simp only [List.map_cons, List.cons.injEq] at e
      obtain ⟨rfl, rfl⟩ := e
      obtain ⟨ρ1, e1, q⟩ := turn x xs ρ h
      refine ⟨ρ1, e1, q.mono (fun ρ h => ⟨xs, rfl, h⟩) (fun _ _ h => h) (fun _ _ h => h) fun b ρ h => ?_⟩
      cases b
      · exact ⟨xs, rfl, h⟩
      · exact h
@[simp] theorem s_for {tg : Tg} {it : It} {body : Sts} : (evS S R F n io kp (.for_ tg it body) ρ).wp N Rt X L = (evIt S R F it ρ).wp (fun xs ρ => tg.free io = true ∧ (forGo tg (fun ρ => evSs S R F n io kp body ρ) xs ρ).wp N Rt X L) X := by
  simp only [evS, so_of]
  congr 1
  funext xs ρ
  cases h : tg.free io
  · simp
  · simp
/-- behind a comprehension: its own names are gone -/
def CompW (own : List Nat) (o : Out (List D)) (Q : List D → Env → Prop) (X : D → Env → Prop) : Prop := o.wp (fun ds ρ => Q ds (wipeE ρ own)) X
/-- a comprehension: what holds ahead of each turn -/
theorem go_wp {cond : Env → Out Bool} {elt : Env → Out D} {tg : Tg} {own : List Nat} {Q : List D → Env → Prop} (I : List D → List D → Env → Prop)
    (ex : ∀ ds ρ', I [] ds ρ' → Q ds (wipeE ρ' own))
    (turn : ∀ x xs acc ρ, I (x :: xs) acc ρ → ∃ ρ1, asgTg tg x (wipeE ρ own) = some ρ1 ∧ (cond ρ1).wp (fun k ρ2 => if k then (elt ρ2).wp (fun d ρ3 => Hid (I xs (acc ++ [d]) ρ3) .mk) noX else Hid (I xs acc ρ2) .mk) noX)
    : ∀ (xs acc : List D) (ρ : Env), I xs acc ρ → CompW own (compGo own tg cond elt xs ρ acc) Q X
  | [], acc, ρ, h => ex acc ρ h
  | x :: xs, acc, ρ, h => by
    obtain ⟨ρ1, e, q⟩ := turn x xs acc ρ h
    unfold CompW
    simp only [compGo, e]
    generalize cond ρ1 = c at q
    cases c with
    | bad => exact q.elim
    | exc d ρ2 => exact q.elim
    | ok k ρ2 =>
      cases k with
      | false => exact go_wp I ex turn xs acc ρ2 q
      | true =>
        have q : (elt ρ2).wp (fun d ρ3 => I xs (acc ++ [d]) ρ3) noX := q
        dsimp only
        generalize elt ρ2 = c at q
        cases c with
        | bad => exact q.elim
        | exc d ρ3 => exact q.elim
        | ok d ρ3 => exact go_wp I ex turn xs _ ρ3 q
theorem goT_wp {γ : Type} {enc : γ → D} {cond : Env → Out Bool} {elt : Env → Out D} {tg : Tg} {own : List Nat} {Q : List D → Env → Prop} (I : List γ → List D → Env → Prop)
    (ex : ∀ ds ρ', I [] ds ρ' → Q ds (wipeE ρ' own))
    (turn : ∀ x xs acc ρ, I (x :: xs) acc ρ → ∃ ρ1, asgTg tg (enc x) (wipeE ρ own) = some ρ1 ∧ (cond ρ1).wp (fun k ρ2 => if k then (elt ρ2).wp (fun d ρ3 => Hid (I xs (acc ++ [d]) ρ3) .mk) noX else Hid (I xs acc ρ2) .mk) noX)
    (xs : List γ) (acc : List D) (ρ : Env) (h : I xs acc ρ) : CompW own (compGo own tg cond elt (xs.map enc) ρ acc) Q X := by
  refine go_wp (fun ys acc ρ => ∃ xs, ys = xs.map enc ∧ I xs acc ρ) ?_ ?_ _ _ _ ⟨xs, rfl, h⟩
  · rintro ds ρ' ⟨xs, e, h⟩
    cases xs with
    | nil => exact ex ds ρ' h
    | cons x xs => simp at e
  · rintro y ys acc ρ ⟨xs, e, h⟩
    cases xs with
    | nil => simp at e
    | cons x xs =>
      simp only [List.map_cons, List.cons.injEq] at e
      obtain ⟨rfl, rfl⟩ := e
      obtain ⟨ρ1, e1, q⟩ := turn x xs acc ρ h
      refine ⟨ρ1, e1, q.mono (fun k ρ2 h => ?_) fun _ _ h => h⟩
      cases k
      · exact ⟨xs, rfl, h⟩
      · have h : (elt ρ2).wp (fun d ρ3 => I xs (acc ++ [d]) ρ3) noX := h
        exact h.mono (fun d ρ3 h => ⟨xs, rfl, h⟩) fun _ _ h => h
theorem go_noX {cond : Env → Out Bool} {elt : Env → Out D} {tg : Tg} {own : List Nat} {Q : List D → Env → Prop} {X' : D → Env → Prop} : ∀ (xs acc : List D) (ρ : Env), (compGo own tg cond elt xs ρ acc).wp Q X = (compGo own tg cond elt xs ρ acc).wp Q X'
  | [], acc, ρ => rfl
  | x :: xs, acc, ρ => by
    simp only [compGo]
    cases asgTg tg x (wipeE ρ own) with
    | none => rfl
    | some ρ1 =>
      dsimp only
      cases cond ρ1 with
      | bad => rfl
      | exc d ρ2 => rfl
      | ok k ρ2 =>
        cases k with
        | false => exact go_noX xs acc ρ2
        | true =>
          dsimp only
          cases elt ρ2 with
          | bad => rfl
          | exc d ρ2 => rfl
          | ok d ρ3 => exact go_noX xs _ ρ3
/-- a comprehension whose turns leave nothing behind -/
theorem go_filter {γ : Type} {enc : γ → D} {cond : Env → Out Bool} {elt : Env → Out D} {tg : Tg} {own : List Nat} {Q : List D → Env → Prop} (ρ0 : Env) (p : γ → Bool) (f : γ → D) : ∀ (xs : List γ) (acc : List D) (ρ : Env),
    (∀ x ∈ xs, ∃ ρ1, asgTg tg (enc x) ρ0 = some ρ1 ∧ (cond ρ1).wp (fun k ρ2 => Hid (k = p x) .mk ∧ Hid (wipeE ρ2 own = ρ0) .mk ∧ (p x = true → (elt ρ2).wp (fun d ρ3 => Hid (d = f x) .mk ∧ Hid (wipeE ρ3 own = ρ0) .mk) noX)) noX) → wipeE ρ own = ρ0 →
    Q (acc ++ (xs.filter p).map f) ρ0 → CompW own (compGo own tg cond elt (xs.map enc) ρ acc) Q X
  | [], acc, ρ, _, hw, q => by simpa [CompW, compGo, hw] using q
  | x :: xs, acc, ρ, h, hw, q => by
    obtain ⟨ρ1, e1, h1⟩ := h x List.mem_cons_self
    have hr := fun y hy => h y (List.mem_cons_of_mem x hy)
    unfold CompW
    simp only [compGo, List.map_cons, hw, e1]
    generalize cond ρ1 = c at h1
    cases c with
    | bad => exact h1.elim
    | exc d ρ2 => exact h1.elim
    | ok k ρ2 =>
      obtain ⟨hk, w2, h2⟩ := h1
      have hk : k = p x := hk
      have w2 : wipeE ρ2 own = ρ0 := w2
      cases k with
      | false => exact go_filter ρ0 p f xs acc ρ2 hr w2 (by rw [List.filter_cons, ← hk] at q; exact q)
      | true =>
        have h2 := h2 hk.symm
        dsimp only
        generalize elt ρ2 = c at h2
        cases c with
        | bad => exact h2.elim
        | exc d ρ3 => exact h2.elim
        | ok d ρ3 =>
          obtain ⟨hd, w3⟩ := h2
          have hd : d = f x := hd
          exact go_filter ρ0 p f xs _ ρ3 hr w3 (by rw [List.filter_cons, ← hk] at q; simpa [hd] using q)
theorem go_fil {γ : Type} {enc : γ → D} {cond : Env → Out Bool} {elt : Env → Out D} {tg : Tg} {own : List Nat} {Q : List D → Env → Prop} (p : γ → Bool) (f : γ → D) (xs : List γ) (acc : List D) (ρ : Env)
    (h : ∀ x ∈ xs, ∃ ρ1, asgTg tg (enc x) (wipeE ρ own) = some ρ1 ∧ (cond ρ1).wp (fun k ρ2 => Hid (k = p x) .mk ∧ Hid (wipeE ρ2 own = wipeE ρ own) .mk ∧ (p x = true → (elt ρ2).wp (fun d ρ3 => Hid (d = f x) .mk ∧ Hid (wipeE ρ3 own = wipeE ρ own) .mk) noX)) noX)
    (q : Q (acc ++ (xs.filter p).map f) (wipeE ρ own)) : CompW own (compGo own tg cond elt (xs.map enc) ρ acc) Q X := go_filter (wipeE ρ own) p f xs acc ρ h rfl q
theorem go_map {γ : Type} {enc : γ → D} {elt : Env → Out D} {tg : Tg} {own : List Nat} {Q : List D → Env → Prop} (f : γ → D) (xs : List γ) (acc : List D) (ρ : Env)
    (h : ∀ x ∈ xs, ∃ ρ1, asgTg tg (enc x) (wipeE ρ own) = some ρ1 ∧ (elt ρ1).wp (fun d ρ3 => Hid (d = f x) .mk ∧ Hid (wipeE ρ3 own = wipeE ρ own) .mk) noX ∧ Hid (wipeE ρ1 own = wipeE ρ own) .mk)
    (q : Q (acc ++ xs.map f) (wipeE ρ own)) : CompW own (compGo own tg (fun ρ => Out.ok true ρ) elt (xs.map enc) ρ acc) Q X := by
  refine go_filter (wipeE ρ own) (fun _ => true) f xs acc ρ (fun x hx => ?_) rfl (by rw [List.filter_eq_self.mpr (fun _ _ => rfl)]; exact q)
  obtain ⟨ρ1, e1, h1, h2⟩ := h x hx
  exact ⟨ρ1, e1, rfl, h2, fun _ => h1⟩
theorem go_filI {cond : Env → Out Bool} {elt : Env → Out D} {tg : Tg} {own : List Nat} {Q : List D → Env → Prop} (p : D → Bool) (f : D → D) (xs : List D) (acc : List D) (ρ : Env)
    (h : ∀ x ∈ xs, ∃ ρ1, asgTg tg x (wipeE ρ own) = some ρ1 ∧ (cond ρ1).wp (fun k ρ2 => Hid (k = p x) .mk ∧ Hid (wipeE ρ2 own = wipeE ρ own) .mk ∧ (p x = true → (elt ρ2).wp (fun d ρ3 => Hid (d = f x) .mk ∧ Hid (wipeE ρ3 own = wipeE ρ own) .mk) noX)) noX)
    (q : Q (acc ++ (xs.filter p).map f) (wipeE ρ own)) : CompW own (compGo own tg cond elt xs ρ acc) Q X := by
  have := go_fil (enc := fun x => x) (Q := Q) (X := X) p f xs acc ρ h q
  rwa [List.map_id'] at this
theorem go_mapI {elt : Env → Out D} {tg : Tg} {own : List Nat} {Q : List D → Env → Prop} (f : D → D) (xs : List D) (acc : List D) (ρ : Env)
    (h : ∀ x ∈ xs, ∃ ρ1, asgTg tg x (wipeE ρ own) = some ρ1 ∧ (elt ρ1).wp (fun d ρ3 => Hid (d = f x) .mk ∧ Hid (wipeE ρ3 own = wipeE ρ own) .mk) noX ∧ Hid (wipeE ρ1 own = wipeE ρ own) .mk)
    (q : Q (acc ++ xs.map f) (wipeE ρ own)) : CompW own (compGo own tg (fun ρ => Out.ok true ρ) elt xs ρ acc) Q X := by
  have := go_map (enc := fun x => x) (Q := Q) (X := X) f xs acc ρ h q
  rwa [List.map_id'] at this
@[simp] theorem e_comp {elt : Ex} {tg : Tg} {it : It} {cond : Cn} {own : List Nat} {Q : T → Env → Prop} : (evE S R F (.comp elt tg it cond own) ρ).wp Q X = (evIt S R F it ρ).wp (fun xs ρ0 => noOwn ρ0 own = true ∧ tg.within own = true ∧ fits xs.length = true ∧ CompW own (compGo own tg (fun ρ => evC S R F cond ρ) (fun ρ => freezeO (evE S R F elt ρ)) xs ρ0 []) (fun ds ρ' => Q (.lst (ds.map .fr)) (backE ρ0 ρ' own)) X) X := by
  simp only [evE, wp_bind, CompW]
  congr 1
  funext xs ρ0
  rw [wp_ite, wp_bind]
  simp only [wp_ok, wp_bad, Bool.and_eq_true]
  split
  · rename_i h
    simp [h]
  · rename_i h
    simp only [eq_iff_iff, false_iff]
    intro q
    exact h ⟨⟨q.1, q.2.1⟩, q.2.2.1⟩
/-! ### expressions -/
@[simp] theorem e_none : evE S R F .none ρ = .ok (.fr .non) ρ := by simp only [evE] <;> rfl
@[simp] theorem e_var {i : Nat} : evE S R F (.var i) ρ = match ρ[i]? with
    | some (.val d) => .ok (.fr d) ρ
    | some (.own t) => .ok (.fr t.toD) (ρ.set i (.val t.toD))
    | _ => .bad := by simp only [evE] <;> rfl
@[simp] theorem e_cst {d : D} : evE S R F (.cst d) ρ = .ok (.fr d) ρ := by simp only [evE] <;> rfl
@[simp] theorem e_bin {op : Operator} {a b : Ex} : evE S R F (.bin op a b) ρ = (freezeO (evE S R F a ρ)).bind fun x ρ => (freezeO (evE S R F b ρ)).bind fun y ρ => Out.of ρ (binD op x y) := by simp only [evE] <;> rfl
@[simp] theorem e_neg {a : Ex} : evE S R F (.neg a) ρ = bindI (freezeO (evE S R F a ρ)) fun i ρ => .ok (.fr (.int (-i))) ρ := by simp only [evE] <;> rfl
@[simp] theorem e_not {a : Ex} : evE S R F (.not a) ρ = (freezeO (evE S R F a ρ)).bind fun x ρ => Out.of ρ (x.truth.map fun b => .fr (.bl (!b))) := by simp only [evE] <;> rfl
@[simp] theorem e_cmp {op : CmpOp} {a b : Ex} : evE S R F (.cmp op a b) ρ = (freezeO (evE S R F a ρ)).bind fun x ρ => (lookO b ρ (evE S R F b ρ)).bind fun y ρ => Out.of ρ ((y.shal.bind fun y => cmpD op x y).map fun b => .fr (.bl b)) := by simp only [evE] <;> rfl
theorem e_chain {op op' : CmpOp} {a b c : Ex} : evE S R F (.chain op op' a b c) ρ = (freezeO (evE S R F a ρ)).bind fun x ρ => (freezeO (evE S R F b ρ)).bind fun y ρ => match cmpD op x y with
    | some true => (freezeO (evE S R F c ρ)).bind fun z ρ => Out.of ρ ((cmpD op' y z).map fun b => .fr (.bl b))
    | some false => .ok (.fr (.bl false)) ρ
    | none => .bad := by simp only [evE] <;> rfl
theorem e_and {a b : Ex} : evE S R F (.and a b) ρ = (freezeO (evE S R F a ρ)).bind fun x ρ => match x.truth with
    | some true => evE S R F b ρ
    | some false => .ok (.fr x) ρ
    | none => .bad := by simp only [evE] <;> rfl
theorem e_or {a b : Ex} : evE S R F (.or a b) ρ = (freezeO (evE S R F a ρ)).bind fun x ρ => match x.truth with
    | some true => .ok (.fr x) ρ
    | some false => evE S R F b ρ
    | none => .bad := by simp only [evE] <;> rfl
@[simp] theorem w_and {a b : Ex} {Q : T → Env → Prop} : (evE S R F (.and a b) ρ).wp Q X = (evE S R F a ρ).wp (fun x ρ => TryO x.toD.truth fun t => if t then (evE S R F b ρ).wp Q X else Q (.fr x.toD) ρ) X := by
  rw [e_and, wp_bind, wp_freeze]
  congr 1
  funext x ρ
  cases x.toD.truth with
  | none => rfl
  | some t => cases t <;> rfl
@[simp] theorem w_or {a b : Ex} {Q : T → Env → Prop} : (evE S R F (.or a b) ρ).wp Q X = (evE S R F a ρ).wp (fun x ρ => TryO x.toD.truth fun t => if t then Q (.fr x.toD) ρ else (evE S R F b ρ).wp Q X) X := by
  rw [e_or, wp_bind, wp_freeze]
  congr 1
  funext x ρ
  cases x.toD.truth with
  | none => rfl
  | some t => cases t <;> rfl
@[simp] theorem w_chain {op op' : CmpOp} {a b c : Ex} {Q : T → Env → Prop} : (evE S R F (.chain op op' a b c) ρ).wp Q X = (evE S R F a ρ).wp (fun x ρ => (evE S R F b ρ).wp (fun y ρ => TryO (cmpD op x.toD y.toD) fun t => if t then (evE S R F c ρ).wp (fun z ρ => TryO (cmpD op' y.toD z.toD) fun u => Q (.fr (.bl u)) ρ) X else Q (.fr (.bl false)) ρ) X) X := by
  rw [e_chain, wp_bind, wp_freeze]
  congr 1
  funext x ρ
  rw [wp_bind, wp_freeze]
  congr 1
  funext y ρ
  cases cmpD op x.toD y.toD with
  | none => rfl
  | some t =>
    cases t with
    | false => rfl
    | true =>
      show ((freezeO (evE S R F c ρ)).bind fun z ρ => Out.of ρ ((cmpD op' y.toD z).map fun b => .fr (.bl b))).wp Q X = (evE S R F c ρ).wp (fun z ρ => TryO (cmpD op' y.toD z.toD) fun u => Q (.fr (.bl u)) ρ) X
      rw [wp_bind, wp_freeze]
      congr 1
      funext z ρ
      cases cmpD op' y.toD z.toD <;> rfl
@[simp] theorem e_ite {c : Cn} {a b : Ex} : evE S R F (.ite c a b) ρ = (evC S R F c ρ).bind fun k ρ => if k then evE S R F a ρ else evE S R F b ρ := by simp only [evE] <;> rfl
@[simp] theorem e_tup {xs : Exs} : evE S R F (.tup xs) ρ = (evDs S R F xs ρ).bind fun ds ρ => if fits ds.length then .ok (.fr (.tup ds)) ρ else .bad := by simp only [evE] <;> rfl
@[simp] theorem e_lst {xs : Exs} : evE S R F (.lst xs) ρ = (evDs S R F xs ρ).bind fun ds ρ => if fits ds.length then .ok (.lst (ds.map .fr)) ρ else .bad := by simp only [evE] <;> rfl
@[simp] theorem e_dic {ks : List L2.Key} {xs : Exs} : evE S R F (.dic ks xs) ρ = (evDs S R F xs ρ).bind fun ds ρ => if ks.length = ds.length && decide ks.Nodup && decide (ks.length ≤ 15) then .ok (.dic ks (ds.map .fr)) ρ else .bad := by simp only [evE] <;> rfl
@[simp] theorem e_dicS {b k v : Ex} : evE S R F (.dicS b k v) ρ = (freezeO (evE S R F b ρ)).bind fun x ρ => if dicOk x then (freezeO (evE S R F k ρ)).bind fun y ρ => (freezeO (evE S R F v ρ)).bind fun z ρ => Out.of ρ (putD x y z) else .bad := by simp only [evE] <;> rfl
@[simp] theorem e_call {f : Nat} {xs : Exs} : evE S R F (.call f xs) ρ = (evAs S R F xs ρ).bind fun as ρ => callF F f as ρ := by simp only [evE] <;> rfl
@[simp] theorem e_make {c : Nat} {xs : Exs} : evE S R F (.make c xs) ρ = (evAs S R F xs ρ).bind fun as ρ => makeF S F c as ρ := by simp only [evE] <;> rfl
@[simp] theorem e_mkexc {c : Nat} {a : Ex} : evE S R F (.mkexc c a) ρ = (freezeO (evE S R F a ρ)).bind fun x ρ => .ok (.fr (.exc c x)) ρ := by simp only [evE] <;> rfl
@[simp] theorem e_bi1 {b : Bi} {e : Ex} : evE S R F (.bi b (.cons false e .nil)) ρ = (lookO e ρ (evE S R F e ρ)).bind fun x ρ => Out.of ρ (x.shal.bind fun x => biD R b [x]) := by simp only [evE] <;> rfl
@[simp] theorem e_bi2 {b : Bi} {s s' : Bool} {e e' : Ex} {r : Exs} : evE S R F (.bi b (.cons s e (.cons s' e' r))) ρ = (evDs S R F (.cons s e (.cons s' e' r)) ρ).bind fun ds ρ => Out.of ρ (biD R b ds) := by simp only [evE] <;> rfl
@[simp] theorem e_isi {a : Ex} {c : Nat ⊕ String} : evE S R F (.isi a c) ρ = (lookO a ρ (evE S R F a ρ)).bind fun x ρ => Out.of ρ ((x.shal.bind fun x => isiD S x c).map fun b => .fr (.bl b)) := by simp only [evE] <;> rfl
@[simp] theorem e_fld {a : Ex} {k : Nat} : evE S R F (.fld a k) ρ = (lookO a ρ (evE S R F a ρ)).bind fun x ρ => fldT S F x k ρ := by simp only [evE] <;> rfl
@[simp] theorem e_ix {a i : Ex} : evE S R F (.ix a i) ρ = match varOf a with
    | some k => if boundS ρ k then (freezeO (evE S R F i ρ)).bind fun y ρ => Out.of ρ (ixS ρ[k]? y) else .bad
    | none => (freezeO (evE S R F a ρ)).bind fun x ρ => (freezeO (evE S R F i ρ)).bind fun y ρ => Out.of ρ ((ixD x y).map .fr) := by simp only [evE] <;> rfl
@[simp] theorem e_sl {a lo hi : Ex} : evE S R F (.sl a lo hi) ρ = match varOf a with
    | some k => if boundS ρ k then (partO lo ρ (evE S R F lo ρ)).bind fun l ρ => (partO hi ρ (evE S R F hi ρ)).bind fun h ρ => Out.of ρ (slS ρ[k]? l h) else .bad
    | none => (freezeO (evE S R F a ρ)).bind fun x ρ => (partO lo ρ (evE S R F lo ρ)).bind fun l ρ => (partO hi ρ (evE S R F hi ρ)).bind fun h ρ => Out.of ρ (slD x l h) := by simp only [evE] <;> rfl
@[simp] theorem e_rev {a : Ex} : evE S R F (.rev a) ρ = (freezeO (evE S R F a ρ)).bind fun x ρ => match x with
    | .tup xs => .ok (.fr (.tup xs.reverse)) ρ
    | .lst xs => .ok (.lst (xs.reverse.map .fr)) ρ
    | _ => .bad := by simp only [evE] <;> rfl
@[simp] theorem e_pop {i : Nat} {a : Ex} : evE S R F (.pop i a) ρ = if !isLstS ρ[i]? then .bad else bindI (freezeO (evE S R F a ρ)) fun k ρ => popT ρ i k := by simp only [evE] <;> rfl
@[simp] theorem e_m1 {b : Bi} {a e : Ex} : evE S R F (.m1 b a e) ρ = (freezeO (evE S R F a ρ)).bind fun x ρ => if recvOk b x then (freezeO (evE S R F e ρ)).bind fun y ρ => Out.of ρ (biD R b [x, y]) else .bad := by simp only [evE] <;> rfl
@[simp] theorem e_m2 {b : Bi} {a e f : Ex} : evE S R F (.m2 b a e f) ρ = (freezeO (evE S R F a ρ)).bind fun x ρ => if recvOk b x then (freezeO (evE S R F e ρ)).bind fun y ρ => (freezeO (evE S R F f ρ)).bind fun z ρ => Out.of ρ (biD R b [x, y, z]) else .bad := by simp only [evE] <;> rfl
@[simp] theorem e_told {c : Nat} {e : Ex} : evE S R F (.told c e) ρ = toldO S c (freezeO (evE S R F e ρ)) := by simp only [evE] <;> rfl
@[simp] theorem e_lrng {it : It} : evE S R F (.lrng it) ρ = (evIt S R F it ρ).bind fun xs ρ => if fits xs.length then .ok (.lst (xs.map .fr)) ρ else .bad := by simp only [evE] <;> rfl
@[simp] theorem c_tt : evC S R F .tt ρ = .ok true ρ := by simp only [evC] <;> rfl
@[simp] theorem c_ex {e : Ex} : evC S R F (.ex e) ρ = (freezeO (evE S R F e ρ)).bind fun x ρ => Out.of ρ x.truth := by simp only [evC] <;> rfl
@[simp] theorem c_not {a : Cn} : evC S R F (.not a) ρ = (evC S R F a ρ).bind fun b ρ => .ok (!b) ρ := by simp only [evC] <;> rfl
@[simp] theorem c_and {a b : Cn} : evC S R F (.and a b) ρ = (evC S R F a ρ).bind fun k ρ => if k then evC S R F b ρ else .ok false ρ := by simp only [evC] <;> rfl
@[simp] theorem c_or {a b : Cn} : evC S R F (.or a b) ρ = (evC S R F a ρ).bind fun k ρ => if k then .ok true ρ else evC S R F b ρ := by simp only [evC] <;> rfl
@[simp] theorem ds_nil : evDs S R F .nil ρ = .ok [] ρ := by simp only [evDs] <;> rfl
@[simp] theorem ds_cons {e : Ex} {r : Exs} : evDs S R F (.cons false e r) ρ = (freezeO (evE S R F e ρ)).bind fun x ρ => (evDs S R F r ρ).bind fun ds ρ => .ok (x :: ds) ρ := by simp only [evDs, Bool.false_eq_true, if_false] <;> rfl
@[simp] theorem ds_star {e : Ex} {r : Exs} : evDs S R F (.cons true e r) ρ = (freezeO (evE S R F e ρ)).bind fun x ρ => match x.items with
      | some xs => (evDs S R F r ρ).bind fun ds ρ => .ok (xs ++ ds) ρ
      | none => .bad := by simp only [evDs, if_true] <;> rfl
@[simp] theorem as_nil : evAs S R F .nil ρ = .ok [] ρ := by simp only [evAs] <;> rfl
@[simp] theorem as_fz {e : Ex} {r : Exs} : evAs S R F (.cons true e r) ρ = (freezeO (evE S R F e ρ)).bind fun d ρ => (evAs S R F r ρ).bind fun as ρ => .ok (.tm (.fr d) :: as) ρ := by simp only [evAs, if_true] <;> rfl
@[simp] theorem as_io {e : Ex} {r : Exs} : evAs S R F (.cons false e r) ρ = match varOf e with
    | some i => if boundS ρ i then (evAs S R F r ρ).bind fun as ρ => .ok (.io i :: as) ρ else .bad
    | none => (evE S R F e ρ).bind fun t ρ => (evAs S R F r ρ).bind fun as ρ => .ok (.tm t :: as) ρ := by simp only [evAs, Bool.false_eq_true, if_false] <;> rfl
@[simp] theorem it_seq {e : Ex} : evIt S R F (.seq e) ρ = (freezeO (evE S R F e ρ)).bind fun x ρ => Out.of ρ (seqD x) := by simp only [evIt] <;> rfl
@[simp] theorem it_rng1 {a : Ex} : evIt S R F (.rng1 a) ρ = bindI (freezeO (evE S R F a ρ)) fun n ρ => if okRange n then .ok (rangeD 0 n) ρ else .bad := by simp only [evIt] <;> rfl
@[simp] theorem it_enum {e : Ex} : evIt S R F (.enum e) ρ = (freezeO (evE S R F e ρ)).bind fun x ρ => Out.of ρ (x.items.map enumD) := by simp only [evIt] <;> rfl
@[simp] theorem it_items {e : Ex} : evIt S R F (.items e) ρ = (freezeO (evE S R F e ρ)).bind fun x ρ => match x with
    | .dic ks vs => if ks.length = vs.length then .ok (List.zipWith (fun k v => .pr [keyD k, v]) ks vs) ρ else .bad
    | _ => .bad := by simp only [evIt] <;> rfl
@[simp] theorem wp_of {o : Option α} : (Out.of ρ o).wp Q X = TryO o fun a => Q a ρ := by cases o <;> rfl
@[simp] theorem wp_of' {a : α} {o : Option Env} : (Out.of' a o).wp Q X = TryO o fun ρ => Q a ρ := by cases o <;> rfl
@[simp] theorem wp_ofX {d : D} {o : Option Env} : (Out.ofX (α := α) d o).wp Q X = TryO o fun ρ => X d ρ := by cases o <;> rfl
@[simp] theorem wp_bindI {o : Out D} {f : Int → Env → Out α} : (bindI o f).wp Q X = o.wp (fun d ρ => match d with
    | .int i => (f i ρ).wp Q X
    | _ => False) X := by
  unfold bindI
  rw [wp_bind]
  congr 1
  funext d ρ
  cases d <;> rfl
def strL (ns : List Str) : List D := ns.map .str
/-! ### slots, arguments -/
@[simp] theorem isLstS_l {ts : List T} : isLstS (some (.own (.lst ts))) = true := rfl
@[simp] theorem boundS_d {i : Nat} : boundS ρ i = match ρ[i]? with
    | some (.val _) => true
    | some (.own _) => true
    | _ => false := rfl
@[simp] theorem lookO_d {e : Ex} {r : Out T} : lookO e ρ r = match varOf e with
    | some i => lookV ρ i
    | none => (freezeO r).bind fun d ρ => .ok (.fr d) ρ := rfl
@[simp] theorem lookV_d {i : Nat} : lookV ρ i = match ρ[i]? with
    | some (.val d) => .ok (.fr d) ρ
    | some (.own t) => .ok t ρ
    | _ => .bad := rfl
@[simp] theorem shal_fr {d : D} : (T.fr d).shal = some d := rfl
@[simp] theorem shal_lst {ds : List D} : (T.lst (ds.map .fr)).shal = some (.lst ds) := by simp [T.shal, frs_map]
@[simp] theorem shal_dic {ks : List L2.Key} {ds : List D} : (T.dic ks (ds.map .fr)).shal = some (.dic ks ds) := by simp [T.shal, frs_map]
@[simp] theorem ar_nil : arSl ρ [] = some ([], none) := rfl
@[simp] theorem ar_fr {d : D} {r : List Ar} : arSl ρ (.tm (.fr d) :: r) = match arSl ρ r with
    | some (ss, o) => some (.val d :: ss, o.map fun p => (p.1 + 1, p.2))
    | none => none := by
  simp only [arSl]
  cases arSl ρ r <;> rfl
@[simp] theorem ar_lst {ts : List T} {r : List Ar} : arSl ρ (.tm (.lst ts) :: r) = match arSl ρ r with
    | some (ss, none) => some (.own (.lst ts) :: ss, some (0, none))
    | _ => none := by
  simp only [arSl]
  cases arSl ρ r with
  | none => rfl
  | some p => obtain ⟨ss, o⟩ := p; cases o <;> rfl
@[simp] theorem ar_io {i : Nat} {r : List Ar} : arSl ρ (.io i :: r) = match ρ[i]? with
    | some (.own t) => (match arSl ρ r with
      | some (ss, none) => some (.own t :: ss, some (0, some i))
      | _ => none)
    | some (.val d) => (match arSl ρ r with
      | some (ss, o) => some (.val d :: ss, o.map fun p => (p.1 + 1, p.2))
      | none => none)
    | _ => none := by
  simp only [arSl]
  cases ρ[i]? with
  | none => rfl
  | some s =>
    cases s with
    | unb => rfl
    | own t =>
      cases arSl ρ r with
      | none => rfl
      | some p => obtain ⟨ss, o⟩ := p; cases o <;> rfl
    | val t =>
      cases arSl ρ r with
      | none => rfl
      | some p => obtain ⟨ss, o⟩ := p; cases o <;> rfl
@[simp] theorem back_none {fin : Env} : backAr ρ fin none = some ρ := rfl
@[simp] theorem back_own {fin : Env} {p : Nat} : backAr ρ fin (some (p, none)) = some ρ := rfl
@[simp] theorem w_back_io {fin : Env} {p i : Nat} : backAr ρ fin (some (p, some i)) = (fin[p]?).map fun s => ρ.set i s := rfl
@[simp] theorem slKeep_t {t : T} : slKeep true t = .own t := rfl
@[simp] theorem slKeep_f {t : T} : slKeep false t = .val t.toD := rfl
@[simp] theorem store_d {i : Nat} {t : T} : store io kp i t ρ = if !io.contains i && decide (i < ρ.length) then .next (ρ.set i (slKeep (kp.contains i) t)) else .bad := rfl
@[simp] theorem owns_nil {k : Nat} : ownsAt k [] = [] := rfl
@[simp] theorem owns_own {k : Nat} {t : T} {r : Env} : ownsAt k (.own t :: r) = k :: ownsAt (k + 1) r := rfl
@[simp] theorem owns_val {k : Nat} {t : D} {r : Env} : ownsAt k (.val t :: r) = ownsAt (k + 1) r := rfl
@[simp] theorem fin_nil : finOf [] ρ = [] := by simp only [finOf]
@[simp] theorem fin_own {t : T} {f : Sl} {as fs : Env} : finOf (.own t :: as) (f :: fs) = f :: finOf as fs := by simp only [finOf]
@[simp] theorem fin_val {t : D} {f : Sl} {as fs : Env} : finOf (.val t :: as) (f :: fs) = .val t :: finOf as fs := by simp only [finOf]
@[simp] theorem ixS_val {d y : D} : ixS (some (.val d)) y = (ixD d y).map .fr := rfl
@[simp] theorem ixS_own {t : T} {y : D} : ixS (some (.own t)) y = (t.shal.bind fun x => ixD x y).map .fr := rfl
@[simp] theorem slS_val {d : D} {l h : Option Int} : slS (some (.val d)) l h = slD d l h := rfl
@[simp] theorem slS_own {t : T} {l h : Option Int} : slS (some (.own t)) l h = t.shal.bind fun x => slD x l h := rfl
@[simp] theorem par_nil : parS io kp [] [] ρ = .next ρ := rfl
@[simp] theorem par_cons {i : Nat} {is : List Nat} {t : T} {as : List Ar} : parS io kp (i :: is) (.tm t :: as) ρ = match store io kp i t ρ with
    | .next ρ => parS io kp is as ρ
    | _ => .bad := rfl
@[simp] theorem items_lst {xs : List D} : (D.lst xs).items = some xs := rfl
@[simp] theorem items_tup {xs : List D} : (D.tup xs).items = some xs := rfl
@[simp] theorem seqD_lst {xs : List D} : seqD (.lst xs) = some xs := rfl
@[simp] theorem seqD_tup {xs : List D} : seqD (.tup xs) = some xs := rfl
@[simp] theorem seqD_str {s : Str} : seqD (.str s) = some (strD s) := rfl
@[simp] theorem lstD_lst {xs : List D} : lstD (.lst xs) = some xs := rfl
@[simp] theorem lenD_lst {xs : List D} : lenD (.lst xs) = some xs.length := rfl
@[simp] theorem lenD_tup {xs : List D} : lenD (.tup xs) = some xs.length := rfl
@[simp] theorem bi_len {x : D} : biD R .len [x] = (lenD x).map fun (n : Nat) => .fr (.int (n : Int)) := rfl
@[simp] theorem bi_int {i : Int} : biD R .int [.int i] = some (.fr (.int i)) := rfl
@[simp] theorem bi_list {x : D} : biD R .list [x] = x.items.map fun xs => .lst (xs.map .fr) := rfl
@[simp] theorem bi_tuple {x : D} : biD R .tuple [x] = x.items.map fun xs => .fr (.tup xs) := rfl
@[simp] theorem bi_repr {x : D} : biD R .repr [x] = (R x).map fun s => .fr (.str s) := rfl
@[simp] theorem bi_all {xs : List D} : biD R .all [.lst xs] = (allB xs).map fun b => .fr (.bl b) := rfl
@[simp] theorem bi_any {xs : List D} : biD R .any [.lst xs] = (anyB xs).map fun b => .fr (.bl b) := rfl
@[simp] theorem bi_sum {xs : List D} : biD R .sum [.lst xs] = (sumI xs).map fun b => .fr (.int b) := rfl
@[simp] theorem bi_max {i j : Int} : biD R .max2 [.int i, .int j] = some (.fr (.int (if j > i then j else i))) := rfl
@[simp] theorem bi_min {i j : Int} : biD R .min2 [.int i, .int j] = some (.fr (.int (if j < i then j else i))) := rfl
@[simp] theorem bi_split {a b : Str} : biD R .split [.str a, .str b] = if decide (b.length ≠ 0) && decide (a.length + 2 ≤ sizeLine) then some (.lst ((strL (Txt.split a b)).map .fr)) else none := by simp [biD, strL]; rfl
@[simp] theorem bi_join {a : Str} {ds : List D} : biD R .join [.str a, .lst ds] = (strsD ds).bind fun ys => if joinOk a ys then some (.fr (.str (Txt.join a ys))) else none := rfl
@[simp] theorem bi_joint {a : Str} {ds : List D} : biD R .join [.str a, .tup ds] = (strsD ds).bind fun ys => if joinOk a ys then some (.fr (.str (Txt.join a ys))) else none := rfl
@[simp] theorem bi_ixt {a : Str} {ds : List D} : biD R .index [.tup ds, .str a] = (strsD ds).bind fun ys => (strIx a ys).map fun (j : Nat) => .fr (.int (j : Int)) := rfl
@[simp] theorem bi_ixl {a : Str} {ds : List D} : biD R .index [.lst ds, .str a] = (strsD ds).bind fun ys => (strIx a ys).map fun (j : Nat) => .fr (.int (j : Int)) := rfl
@[simp] theorem tr_non : D.truth .non = some false := rfl
@[simp] theorem tr_bl {b : Bool} : D.truth (.bl b) = some b := rfl
@[simp] theorem tr_int {i : Int} : D.truth (.int i) = some (i != 0) := rfl
@[simp] theorem tr_tup {xs : List D} : D.truth (.tup xs) = some (!xs.isEmpty) := rfl
@[simp] theorem tr_lst {xs : List D} : D.truth (.lst xs) = some (!xs.isEmpty) := rfl
@[simp] theorem add_int {i j : Int} : binD .Add (.int i) (.int j) = some (.fr (.int (i + j))) := rfl
@[simp] theorem sub_int {i j : Int} : binD .Sub (.int i) (.int j) = some (.fr (.int (i - j))) := rfl
@[simp] theorem add_lst {xs ys : List D} : binD .Add (.lst xs) (.lst ys) = if fits (xs.length + ys.length) then some (.lst ((xs ++ ys).map .fr)) else none := rfl
@[simp] theorem add_tup {xs ys : List D} : binD .Add (.tup xs) (.tup ys) = if fits (xs.length + ys.length) then some (.fr (.tup (xs ++ ys))) else none := rfl
@[simp] theorem add_str {xs ys : Str} : binD .Add (.str xs) (.str ys) = if fits (xs.length + ys.length) then some (.fr (.str (xs ++ ys))) else none := rfl
@[simp] theorem mul_int {i j : Int} : binD .Mult (.int i) (.int j) = if mulOk i j then some (.fr (.int (i * j))) else none := rfl
@[simp] theorem lt_int {i j : Int} : cmpD .Lt (.int i) (.int j) = some (decide (i < j)) := rfl
@[simp] theorem le_int {i j : Int} : cmpD .LtE (.int i) (.int j) = some (decide (i ≤ j)) := rfl
@[simp] theorem gt_int {i j : Int} : cmpD .Gt (.int i) (.int j) = some (decide (j < i)) := rfl
@[simp] theorem ge_int {i j : Int} : cmpD .GtE (.int i) (.int j) = some (decide (j ≤ i)) := rfl
@[simp] theorem eq_d {x y : D} : cmpD .Eq x y = eqD x y := rfl
@[simp] theorem ne_d {x y : D} : cmpD .NotEq x y = (eqD x y).map (!·) := rfl
@[simp] theorem in_d {x y : D} : cmpD .In x y = inD x y := rfl
@[simp] theorem nin_d {x y : D} : cmpD .NotIn x y = (inD x y).map (!·) := rfl
@[simp] theorem is_d {x : D} : cmpD .Is x .non = some (match x with
    | .non => true
    | _ => false) := rfl
@[simp] theorem isn_d {x : D} : cmpD .IsNot x .non = some (match x with
    | .non => false
    | _ => true) := rfl
@[simp] theorem asg_nm {i : Nat} {d : D} : asgTg (.nm i) d ρ = if decide (i < ρ.length) && !d.isPr then some (ρ.set i (.val d)) else none := by simp only [asgTg]
@[simp] theorem asg_tup {ts : List Tg} {ds : List D} : asgTg (.tp ts) (.tup ds) ρ = asgTgs ts ds ρ := by simp only [asgTg]
@[simp] theorem asg_pr {ts : List Tg} {ds : List D} : asgTg (.tp ts) (.pr ds) ρ = asgTgs ts ds ρ := by simp only [asgTg]
@[simp] theorem asgs_nil : asgTgs [] [] ρ = some ρ := by simp only [asgTgs]
@[simp] theorem asgs_cons {t : Tg} {ts : List Tg} {d : D} {ds : List D} : asgTgs (t :: ts) (d :: ds) ρ = (asgTg t d ρ).bind fun ρ => asgTgs ts ds ρ := by simp only [asgTgs]
@[simp] theorem pr_non : D.isPr .non = false := rfl
@[simp] theorem pr_bl {b : Bool} : D.isPr (.bl b) = false := rfl
@[simp] theorem pr_int {b : Int} : D.isPr (.int b) = false := rfl
@[simp] theorem pr_str {b : Str} : D.isPr (.str b) = false := rfl
@[simp] theorem pr_tup {b : List D} : D.isPr (.tup b) = false := rfl
@[simp] theorem pr_lst {b : List D} : D.isPr (.lst b) = false := rfl
@[simp] theorem pr_dic {ks : List L2.Key} {b : List D} : D.isPr (.dic ks b) = false := rfl
@[simp] theorem pr_ins {c : Nat} {b : List D} : D.isPr (.ins c b) = false := rfl
@[simp] theorem pr_exc {c : Nat} {b : D} : D.isPr (.exc c b) = false := rfl
@[simp] theorem w_free_nm {i : Nat} : Tg.free io (.nm i) = !io.contains i := by simp only [Tg.free]
@[simp] theorem w_free_tp {ts : List Tg} : Tg.free io (.tp ts) = Tg.frees io ts := by simp only [Tg.free]
@[simp] theorem w_frees_nil : Tg.frees io [] = true := by simp only [Tg.frees]
@[simp] theorem w_frees_cons {t : Tg} {ts : List Tg} : Tg.frees io (t :: ts) = (Tg.free io t && Tg.frees io ts) := by simp only [Tg.frees]
@[simp] theorem part_d {e : Ex} {r : Out T} : partO e ρ r = if noneE e then .ok none ρ else bindI (freezeO r) fun i ρ => .ok (some i) ρ := rfl
@[simp] theorem noneE_none : noneE .none = true := rfl
@[simp] theorem noneE_var {i : Nat} : noneE (.var i) = false := rfl
@[simp] theorem noneE_cst {d : D} : noneE (.cst d) = false := rfl
@[simp] theorem noneE_bin {o : Operator} {a b : Ex} : noneE (.bin o a b) = false := rfl
@[simp] theorem noneE_neg {a : Ex} : noneE (.neg a) = false := rfl
@[simp] theorem bindI_int {i : Int} {f : Int → Env → Out α} : bindI (.ok (.int i) ρ) f = f i ρ := rfl
@[simp] theorem wipe_nil : wipeE ρ [] = ρ := rfl
@[simp] theorem wipe_cons {k : Nat} {ks : List Nat} : wipeE ρ (k :: ks) = (wipeE ρ ks).set k .unb := rfl
@[simp] theorem backE_nil {ρ0 : Env} : backE ρ0 ρ [] = ρ := rfl
@[simp] theorem backE_cons {ρ0 : Env} {k : Nat} {ks : List Nat} : backE ρ0 ρ (k :: ks) = backE ρ0 (ρ.set k (ρ0[k]?.getD .unb)) ks := rfl
@[simp] theorem fits_d {n : Nat} : fits n = decide (n ≤ 16777216) := rfl
@[simp] theorem recv_split {a : Str} : recvOk .split (.str a) = true := rfl
@[simp] theorem recv_join {a : Str} : recvOk .join (.str a) = true := rfl
@[simp] theorem recv_ixt {a : List D} : recvOk .index (.tup a) = true := rfl
@[simp] theorem recv_ixl {a : List D} : recvOk .index (.lst a) = true := rfl
@[simp] theorem recv_get {ks : List L2.Key} {a : List D} : recvOk .get (.dic ks a) = true := rfl
@[simp] theorem within_nm {ks : List Nat} {i : Nat} : Tg.within ks (.nm i) = ks.contains i := by simp only [Tg.within]
@[simp] theorem within_tp {ks : List Nat} {ts : List Tg} : Tg.within ks (.tp ts) = Tg.withins ks ts := by simp only [Tg.within]
@[simp] theorem withins_nil {ks : List Nat} : Tg.withins ks [] = true := by simp only [Tg.withins]
@[simp] theorem withins_cons {ks : List Nat} {t : Tg} {ts : List Tg} : Tg.withins ks (t :: ts) = (Tg.within ks t && Tg.withins ks ts) := by simp only [Tg.withins]
@[simp] theorem noOwn_nil : noOwn ρ [] = true := rfl
@[simp] theorem noOwn_cons {k : Nat} {ks : List Nat} : noOwn ρ (k :: ks) = ((match ρ[k]? with
    | some (.own _) => false
    | _ => true) && noOwn ρ ks) := rfl
@[simp] theorem ix_tup {xs : List D} {i : Int} : ixD (.tup xs) (.int i) = atD xs i := rfl
@[simp] theorem ix_lst {xs : List D} {i : Int} : ixD (.lst xs) (.int i) = atD xs i := rfl
@[simp] theorem at_0 {x : D} {xs : List D} : atD (x :: xs) 0 = some x := by simp [atD, L2.atI, L2.ixN]
@[simp] theorem at_1 {x y : D} {xs : List D} : atD (x :: y :: xs) 1 = some y := by
  have : L2.ixN (x :: y :: xs).length 1 = some 1 := by simp [L2.ixN]; omega
  simp only [atD, L2.atI, this]; rfl
@[simp] theorem at_2 {x y z : D} {xs : List D} : atD (x :: y :: z :: xs) 2 = some z := by
  have : L2.ixN (x :: y :: z :: xs).length 2 = some 2 := by simp [L2.ixN]; omega
  simp only [atD, L2.atI, this]; rfl
@[simp] theorem toD_l {ts : List T} : (T.lst ts).toD = .lst (T.toDs ts) := by simp only [T.toD]
@[simp] theorem toD_dc {ks : List L2.Key} {ts : List T} : (T.dic ks ts).toD = .dic ks (T.toDs ts) := by simp only [T.toD]
@[simp] theorem toD_in {c : Nat} {ts : List T} : (T.ins c ts).toD = .ins c (T.toDs ts) := by simp only [T.toD]
@[simp] theorem toDs_nil : T.toDs [] = [] := by simp only [T.toDs]
@[simp] theorem toDs_cons {t : T} {ts : List T} : T.toDs (t :: ts) = t.toD :: T.toDs ts := by simp only [T.toDs]
@[simp] theorem toDs_m {ds : List D} : T.toDs (ds.map .fr) = ds := toDs_fr ds
@[simp] theorem shal_l {ts : List T} : (T.lst ts).shal = (frs ts).map .lst := rfl
@[simp] theorem shal_dc {ks : List L2.Key} {ts : List T} : (T.dic ks ts).shal = (frs ts).map (.dic ks) := rfl
@[simp] theorem frs_nil : frs [] = some [] := rfl
@[simp] theorem frs_cons {d : D} {ts : List T} : frs (.fr d :: ts) = (frs ts).map (d :: ·) := rfl
@[simp] theorem frs_m {ds : List D} : frs (ds.map T.fr) = some ds := frs_map ds
@[simp] theorem eqv_s (a b : Str) : D.eqv (.str a) (.str b) = decide (a = b) := by
  have : D.eqv (.str a) (.str b) = (a == b) := by simp [D.eqv, D.py, PyData.eqv]
  rw [this]
  by_cases h : a = b <;> simp [h]
@[simp] theorem eqv_i (a b : Int) : D.eqv (.int a) (.int b) = decide (a = b) := by
  have : D.eqv (.int a) (.int b) = (a == b) := by simp [D.eqv, D.py, PyData.eqv]
  rw [this]
  by_cases h : a = b <;> simp [h]
@[simp] theorem eqD_i (a b : Int) : eqD (.int a) (.int b) = some (decide (a = b)) := by simp [eqD, D.scal, D.flat]
@[simp] theorem eqD_s (a b : Str) : eqD (.str a) (.str b) = some (decide (a = b)) := by simp [eqD, D.scal, D.flat]
@[simp] theorem flat_s (a : Str) : D.flat (.str a) = true := rfl
@[simp] theorem flat_i (a : Int) : D.flat (.int a) = true := rfl
@[simp] theorem flat_b (a : Bool) : D.flat (.bl a) = true := rfl
@[simp] theorem flat_n : D.flat .non = true := rfl
theorem flats_map (ws : List Str) : (ws.map D.str).all D.flat = true := by
  rw [List.all_map]; exact List.all_eq_true.mpr fun _ _ => rfl
theorem any_eqvs (s : Str) : ∀ ws : List Str, ((ws.map D.str).any fun z => D.eqv z (.str s)) = decide (s ∈ ws)
  | [] => rfl
  | w :: ws => by
    rw [List.map_cons, List.any_cons, any_eqvs s ws, eqv_s]
    by_cases h : w = s
    · subst h; simp
    · have h' : ¬ s = w := fun z => h z.symm
      simp [h, h']
@[simp] theorem in_strs (s : Str) (ws : List Str) : inD (.str s) (.tup (ws.map .str)) = some (decide (s ∈ ws)) := by
  simp only [inD, flat_s, flats_map, any_eqvs, Bool.and_self, Bool.true_or, if_true]
@[simp] theorem in_strl (s : Str) (ws : List Str) : inD (.str s) (.lst (ws.map .str)) = some (decide (s ∈ ws)) := by
  simp only [inD, flat_s, flats_map, any_eqvs, Bool.and_self, Bool.true_or, if_true]
@[simp] theorem in_s2 (s a b : Str) : inD (.str s) (.tup [.str a, .str b]) = some (decide (s = a) || decide (s = b)) := by
  rw [show ([.str a, .str b] : List D) = [a, b].map D.str from rfl, in_strs]; simp
@[simp] theorem in_s3 (s a b c : Str) : inD (.str s) (.tup [.str a, .str b, .str c]) = some (decide (s = a) || (decide (s = b) || decide (s = c))) := by
  rw [show ([.str a, .str b, .str c] : List D) = [a, b, c].map D.str from rfl, in_strs]; simp
theorem strsD_map : ∀ ws : List Str, strsD (ws.map .str) = some ws
  | [] => rfl
  | w :: ws => by simp [strsD, strsD_map ws]
@[simp] theorem at_last {x : D} {xs : List D} : atD (xs ++ [x]) (-1) = some x := by
  have : L2.ixN (xs ++ [x]).length (-1) = some xs.length := by simp [L2.ixN]; omega
  simp only [atD, L2.atI, this]
  simp
@[simp] theorem toDs_c {γ : Type} {f : γ → D} {xs : List γ} : T.toDs (xs.map (T.fr ∘ f)) = xs.map f := by rw [← List.map_map, toDs_m]
@[simp] theorem frs_c {γ : Type} {f : γ → D} {xs : List γ} : frs (xs.map (T.fr ∘ f)) = some (xs.map f) := by rw [← List.map_map, frs_m]
@[simp] theorem toDs_l {γ : Type} {f : γ → D} {xs : List γ} : T.toDs (xs.map fun x => T.fr (f x)) = xs.map f := toDs_c
@[simp] theorem frs_l {γ : Type} {f : γ → D} {xs : List γ} : frs (xs.map fun x => T.fr (f x)) = some (xs.map f) := frs_c
@[simp] theorem strL_len {ns : List Str} : (strL ns).length = ns.length := by simp [strL]
@[simp] theorem strsD_L {ns : List Str} : strsD (strL ns) = some ns := strsD_map ns
@[simp] theorem inL_t (s : Str) (ws : List Str) : inD (.str s) (.tup (strL ws)) = some (decide (s ∈ ws)) := in_strs s ws
@[simp] theorem inL_l (s : Str) (ws : List Str) : inD (.str s) (.lst (strL ws)) = some (decide (s ∈ ws)) := in_strl s ws
@[simp] theorem ext_own {i : Nat} {us : List T} : (extS i (.lst us) ρ).wp N Rt X L = match ρ[i]?, frs us with
    | some (.own (.lst ts)), some ds => (ts.length + ds.length ≤ 16777216 ∧ N (ρ.set i (.own (.lst (ts ++ ds.map .fr)))))
    | _, _ => False := by
  unfold extS
  dsimp only
  generalize frs us = q
  cases ρ[i]? with
  | none => rfl
  | some s =>
    cases s with
    | own t =>
      cases t with
      | lst ts =>
        cases q with
        | none => rfl
        | some ds =>
          dsimp only
          rw [so_ite]
          simp
      | _ => rfl
    | _ => rfl
@[simp] theorem frs_s {ds : List D} {d : D} : frs (ds.map T.fr ++ [T.fr d]) = some (ds ++ [d]) := by
  have : ds.map T.fr ++ [T.fr d] = (ds ++ [d]).map T.fr := by simp
  rw [this, frs_m]
@[simp] theorem toDs_s {ds : List D} {d : D} : T.toDs (ds.map T.fr ++ [T.fr d]) = ds ++ [d] := by
  have : ds.map T.fr ++ [T.fr d] = (ds ++ [d]).map T.fr := by simp
  rw [this, toDs_m]
@[simp] theorem it_zip {a b : Ex} : evIt S R F (.zip2 a b) ρ = (freezeO (evE S R F a ρ)).bind fun x ρ => (freezeO (evE S R F b ρ)).bind fun y ρ => Out.of ρ (zipD x y) := by
  simp only [evIt]
  congr 1
  funext x ρ
  congr 1
  funext y ρ
  cases zipD x y <;> rfl
@[simp] theorem zip_tup {xs ys : List D} : zipD (.tup xs) (.tup ys) = some (List.zipWith (fun p q => .pr [p, q]) xs ys) := rfl
@[simp] theorem zip_lst {xs ys : List D} : zipD (.lst xs) (.lst ys) = some (List.zipWith (fun p q => .pr [p, q]) xs ys) := rfl
end
end Eg
set_option Elab.async false
set_option linter.all false
set_option maxRecDepth 8000
set_option maxHeartbeats 4000000
set_option exponentiation.threshold 5000
/-! drawing, by what holds behind it -/
namespace Eg
open PySem
/-- a pot that so many draws more can be taken of -/
def PotT (n : Nat) (t : T) : Prop := ∃ N a b c, t = potT a b c ∧ PotOk N a b c ∧ N + n ≤ 2 ^ 100
theorem PotT.mono {n m : Nat} {t : T} (h : PotT n t) (k : m ≤ n) : PotT m t := by
  obtain ⟨N, a, b, c, e, p, l⟩ := h
  exact ⟨N, a, b, c, e, p, by omega⟩
def TakeW (F : Nat → Env → OutF) (i : Nat) : Prop := ∀ (n : Nat) (p : T) (u : Int), PotT (n + 1) p → 0 < u → u < 2 ^ 1000 →
  (F i [.own p, .val (.int u)]).wp (fun r fin => ∃ d p', r = .fr (.int d) ∧ fin = [.own p', .val (.int u)] ∧ 0 ≤ d ∧ d < u ∧ PotT n p') noX
def OfW (F : Nat → Env → OutF) (i : Nat) : Prop := ∀ (n : Nat) (p : T) (ds : List D), PotT (n + 1) p → ds ≠ [] → ds.length < 2 ^ 62 →
  (F i [.own p, .val (.lst ds)]).wp (fun r fin => ∃ d p', r = .fr d ∧ fin = [.own p', .val (.lst ds)] ∧ d ∈ ds ∧ PotT n p') noX
theorem TakeF.w {F : Nat → Env → OutF} {i : Nat} (h : TakeF F i) : TakeW F i := by
  rintro n p u ⟨N, a, b, c, rfl, q, l⟩ h0 h1
  obtain ⟨d, a', b', c', e, d0, d1, q'⟩ := h N a b c u (by omega) q h0 h1
  exact (wp_of_eq e).mono (by rintro _ _ ⟨rfl, rfl⟩; exact ⟨d, _, rfl, rfl, d0, d1, N + 1, a', b', c', rfl, q', by omega⟩) (fun _ _ z => z)
theorem OfF.w {F : Nat → Env → OutF} {i : Nat} (h : OfF F i) : OfW F i := by
  rintro n p ds ⟨N, a, b, c, rfl, q, l⟩ h0 h1
  obtain ⟨d, a', b', c', e, hd, q'⟩ := h N a b c ds (by omega) q h0 h1
  exact (wp_of_eq e).mono (by rintro _ _ ⟨rfl, rfl⟩; exact ⟨d, _, rfl, rfl, hd, N + 1, a', b', c', rfl, q', by omega⟩) (fun _ _ z => z)
section
variable {S : Stat} {R : D → Option Str} {n : Nat} {fns : List Fn} {k : Nat}
theorem rangeD_nat (m : Nat) : rangeD 0 (m : Int) = (List.range m).map fun (k : Nat) => D.int (k : Int) := by
  simp [rangeD]
theorem okRange_nat {m : Nat} (h : m < 2 ^ 62) : okRange (m : Int) = true := by
  simp only [okRange, Bool.and_eq_true, decide_eq_true_eq]
  constructor <;> omega
theorem fits_iff {n : Nat} : fits n = true ↔ n ≤ 16777216 := by simp [fits]
/-- _law_some: _law_pot_here, _law_pool, _law_many, _law_left, _law_found, _law_lap -/
def gLawSome (iLawTake : Nat) : Sts :=
  (.cons (.par [3, 4] (.cons false (.bi .list (.cons false (.var 1) .nil)) (.cons false (.lst .nil) .nil)))
  (.cons (.for_ (.nm 5) (.rng1 (.var 2)) (.cons (.app 4 (.pop 3 (.call iLawTake (.cons false (.var 0) (.cons true (.bi .len (.cons false (.var 3) .nil)) .nil)))))
  .nil))
  (.cons (.ret (.var 4))
  .nil)))
def SomeW (F : Nat → Env → OutF) (i : Nat) : Prop := ∀ (n m : Nat) (p : T) (ds : List D), PotT (n + m) p → m ≤ ds.length → ds.length ≤ 1000 →
  (F i [.own p, .val (.lst ds), .val (.int (m : Int))]).wp (fun r fin => ∃ (es left : List D) (p' : T), r = .lst (es.map .fr) ∧ fin = [.own p', .val (.lst ds), .val (.int (m : Int))] ∧ (es ++ left).Perm ds ∧ es.length = m ∧ PotT n p') noX
theorem ixN_nat {n j : Nat} (h : j < n) : L2.ixN n (j : Int) = some j := by simp [L2.ixN, h]
theorem popT_nat {ρ : Env} {i j : Nat} {left : List D} (h : ρ[i]? = some (.own (.lst (left.map .fr)))) (hj : j < left.length) (hl : left.length < 2 ^ 62) : popT ρ i (j : Int) = .ok (.fr left[j]) (ρ.set i (.own (.lst ((left.eraseIdx j).map .fr)))) := by
  have e : okRange (j : Int) = true := okRange_nat (by omega)
  have e2 : (left.map T.fr).eraseIdx j = (left.eraseIdx j).map T.fr := by rw [List.eraseIdx_eq_take_drop_succ, List.eraseIdx_eq_take_drop_succ, List.map_append, List.map_take, List.map_drop]
  simp only [popT, h, List.length_map, ixN_nat hj, List.getElem?_map, List.getElem?_eq_getElem hj, Option.map_some, e, if_true, e2]
theorem perm_pick {left found ds : List D} {j : Nat} (hj : j < left.length) (h : (found ++ left).Perm ds) : (found ++ [left[j]] ++ left.eraseIdx j).Perm ds := by
  refine List.Perm.trans ?_ h
  rw [List.append_assoc]
  refine List.Perm.append_left _ ?_
  rw [List.eraseIdx_eq_take_drop_succ]
  show (left[j] :: (left.take j ++ left.drop (j + 1))).Perm left
  refine List.Perm.trans List.perm_middle.symm ?_
  rw [← List.drop_eq_getElem_cons hj, List.take_append_drop]
theorem some_W {i t : Nat} (h : fns[i]? = some ⟨3, 6, [4, 3], gLawSome t⟩) (ht : TakeW (evF S R n fns k) t) : SomeW (evF S R n fns (k + 1)) i := by
  intro N m p ds hp hm hl
  refine f_wp h rfl ?_
  generalize evF S R n fns k = F at ht
  simp [gLawSome, okRange_nat (m := m) (by omega), rangeD_nat]
  refine forT_wp (fun (xs : List Nat) ρ => ∃ (p' : T) (left found : List D) (s5 : Sl), ρ = [.own p', .val (.lst ds), .val (.int m), .own (.lst (left.map .fr)), .own (.lst (found.map .fr)), s5] ∧ PotT (N + xs.length) p' ∧ (found ++ left).Perm ds ∧ found.length + xs.length = m) ?_ ?_ _ _ ⟨p, ds, [], .unb, by simp, by simpa using hp, by simp, by simp⟩
  · rintro ρ ⟨p', left, found, s5, rfl, hp', pm, fl⟩
    simp
    exact hid ⟨found, left, p', rfl, by simp, pm, by simpa using fl, by simpa using hp'⟩
  · rintro x xs ρ ⟨p', left, found, s5, rfl, hp', pm, fl⟩
    simp
    have hpl := pm.length_eq
    simp only [List.length_append, List.length_cons] at hpl fl
    refine (ht (N + xs.length) p' left.length hp' (by omega) (by have : (2 : Int) ^ 30 < 2 ^ 1000 := by decide +kernel
                                                                 omega)).use ?_
    rintro _ _ ⟨d, q, rfl, rfl, d0, d1, hq⟩
    obtain ⟨j, rfl⟩ := Int.eq_ofNat_of_zero_le d0
    have hj : j < left.length := by omega
    simp
    rw [popT_nat (left := left) (j := j) rfl hj (by omega)]
    simp
    exact ⟨by omega, hid ⟨q, left.eraseIdx j, found ++ [left[j]], _, by simp; rfl, hq, perm_pick hj pm, by simp; omega⟩⟩
/-- the pool of names that the laws draw of -/
def pool21 : List Str := (["a", "b", "c", "ann", "bob", "jobs", "let", "not", "as", "to"] : List Str) ++ (["begin", "end", "clean", "zzzzzzzz", "no", "spent", "free", "seen", "same", "plain", "undo"] : List Str)
theorem pool21_nodup : pool21.Nodup := by decide +kernel
/-- _law_names: _law_pot_here, _law_many, _law_pool -/
def gLawNames (iLawSome : Nat) : Sts :=
  (.cons (.asg 2 (.lst (.cons false (.cst (.str "a")) (.cons false (.cst (.str "b")) (.cons false (.cst (.str "c")) (.cons false (.cst (.str "ann")) (.cons false (.cst (.str "bob")) (.cons false (.cst (.str "jobs")) (.cons false (.cst (.str "let")) (.cons false (.cst (.str "not")) (.cons false (.cst (.str "as")) (.cons false (.cst (.str "to")) (.cons false (.cst (.str "begin")) (.cons false (.cst (.str "end")) (.cons false (.cst (.str "clean")) (.cons false (.cst (.str "zzzzzzzz")) .nil))))))))))))))))
  (.cons (.ret (.call iLawSome (.cons false (.var 0) (.cons true (.bin .Add (.var 2) (.lst (.cons false (.cst (.str "no")) (.cons false (.cst (.str "spent")) (.cons false (.cst (.str "free")) (.cons false (.cst (.str "seen")) (.cons false (.cst (.str "same")) (.cons false (.cst (.str "plain")) (.cons false (.cst (.str "undo")) .nil))))))))) (.cons true (.var 1) .nil)))))
  .nil))
theorem strL_inj : ∀ {a b : List Str}, strL a = strL b → a = b
  | [], [], _ => rfl
  | [], _ :: _, h => by simp [strL] at h
  | _ :: _, [], h => by simp [strL] at h
  | x :: a, y :: b, h => by
    simp only [strL, List.map_cons, List.cons.injEq, D.str.injEq] at h
    rw [h.1, strL_inj (a := a) (b := b) h.2]
/-- so many unlike names of the pool -/
def NamesW (F : Nat → Env → OutF) (i : Nat) : Prop := ∀ (n m : Nat) (p : T), PotT (n + m) p → m ≤ 21 →
  (F i [.own p, .val (.int (m : Int))]).wp (fun r fin => ∃ (ns : List Str) (p' : T), r = .lst ((strL ns).map .fr) ∧ fin = [.own p', .val (.int (m : Int))] ∧ ns.Nodup ∧ (∀ x ∈ ns, x ∈ pool21) ∧ ns.length = m ∧ PotT n p') noX
theorem perm_strL {es left : List D} {ws : List Str} (h : (es ++ left).Perm (strL ws)) (hn : ws.Nodup) : ∃ ns, es = strL ns ∧ ns.Nodup ∧ (∀ x ∈ ns, x ∈ ws) := by
  have all : ∀ x ∈ es, ∃ s ∈ ws, x = .str s := fun x hx => by
    have := (h.mem_iff (a := x)).mp (List.mem_append_left _ hx)
    simp only [strL, List.mem_map] at this
    obtain ⟨s, hs, rfl⟩ := this
    exact ⟨s, hs, rfl⟩
  have ex : ∀ es : List D, (∀ x ∈ es, ∃ s ∈ ws, x = .str s) → ∃ ns, es = strL ns ∧ (∀ x ∈ ns, x ∈ ws) := by
    intro es
    induction es with
    | nil => exact fun _ => ⟨[], rfl, by simp⟩
    | cons e es ih =>
      intro h
      obtain ⟨s, hs, rfl⟩ := h e List.mem_cons_self
      obtain ⟨ns, rfl, hn⟩ := ih fun x hx => h x (List.mem_cons_of_mem _ hx)
      exact ⟨s :: ns, rfl, by simpa using ⟨hs, hn⟩⟩
  obtain ⟨ns, rfl, hm⟩ := ex es all
  refine ⟨ns, rfl, ?_, hm⟩
  have hd : (strL ws).Pairwise (· ≠ ·) := by
    unfold strL
    rw [List.pairwise_map]
    exact hn.imp fun h e => h (by simpa using e)
  have h2 : (strL ns ++ left).Pairwise (· ≠ ·) := (h.pairwise_iff fun h e => h e.symm).mpr hd
  have h3 := (List.pairwise_append.mp h2).1
  unfold strL at h3
  rw [List.pairwise_map] at h3
  exact h3.imp fun h e => h (by rw [e])
theorem names_W {i t : Nat} (h : fns[i]? = some ⟨2, 3, [], gLawNames t⟩) (ht : SomeW (evF S R n fns k) t) : NamesW (evF S R n fns (k + 1)) i := by
  intro N m p hp hm
  refine f_wp h rfl ?_
  generalize evF S R n fns k = F at ht
  simp [gLawNames]
  show (F t [Sl.own p, .val (.lst (strL pool21)), .val (.int m)]).wp _ _
  have hl : m ≤ (strL pool21).length := by simpa [strL, pool21] using hm
  refine (ht N m p (strL pool21) hp hl (by decide)).use ?_
  rintro _ _ ⟨es, left, p', rfl, rfl, pm, el, hp'⟩
  obtain ⟨ns, rfl, hn, hmem⟩ := perm_strL pm pool21_nodup
  simp
  exact hid ⟨ns, p', rfl, by simp, hn, hmem, by simpa [strL] using el, hp'⟩
end
end Eg
set_option Elab.async false
set_option linter.all false
set_option maxRecDepth 8000
set_option maxHeartbeats 4000000
set_option exponentiation.threshold 5000
/-! drawn jobs -/
namespace Eg
open PySem
section
variable {S : Stat} {R : D → Option Str} {n : Nat} {fns : List Fn} {k : Nat}
/-- the law's jobs: names with manners -/
def pairS (p : Str × Str) : D := .tup [.str p.1, .str p.2]
def jmD (jm : List (Str × Str)) : D := .lst (jm.map pairS)
@[simp] theorem seqD_jm {jm : List (Str × Str)} : seqD (jmD jm) = some (jm.map pairS) := rfl
/-- _law_jobs: _law_pot_here, _law_most, _law_manners, _law_name -/
def gLawJobs (iLawOf iLawNames iLawTake : Nat) : Sts :=
  (.cons (.ret (.comp (.tup (.cons false (.var 3) (.cons false (.call iLawOf (.cons false (.var 0) (.cons true (.var 2) .nil))) .nil))) (.nm 3) (.seq (.call iLawNames (.cons false (.var 0) (.cons true (.bin .Add (.cst (.int 1)) (.call iLawTake (.cons false (.var 0) (.cons true (.var 1) .nil)))) .nil)))) .tt [3]))
  .nil)
/-- drawn jobs: unlike names of the pool, manners of those given -/
structure JobsOk (mans : List Str) (jm : List (Str × Str)) : Prop where
  nodup : (jm.map (·.1)).Nodup
  pool : ∀ x ∈ jm.map (·.1), x ∈ pool21
  man : ∀ x ∈ jm.map (·.2), x ∈ mans
  pos : 0 < jm.length
def JobsW (F : Nat → Env → OutF) (i : Nat) : Prop := ∀ (n m : Nat) (mans : List Str) (p : T), PotT (n + 2 * m + 1) p → 0 < m → m ≤ 21 → mans ≠ [] → mans.length < 1000 →
  (F i [.own p, .val (.int (m : Int)), .val (.lst (strL mans))]).wp (fun r fin => ∃ (jm : List (Str × Str)) (p' : T), r = .lst ((jm.map pairS).map .fr) ∧ fin = [.own p', .val (.int (m : Int)), .val (.lst (strL mans))] ∧ JobsOk mans jm ∧ jm.length ≤ m ∧ PotT n p') noX
theorem jobs_W {i f t o : Nat} (h : fns[i]? = some ⟨3, 4, [], gLawJobs o f t⟩) (ht : TakeW (evF S R n fns k) t) (ho : OfW (evF S R n fns k) o) (hf : NamesW (evF S R n fns k) f) : JobsW (evF S R n fns (k + 1)) i := by
  intro N m mans p hp h0 h21 hm hml
  refine f_wp h rfl ?_
  generalize evF S R n fns k = F at ht ho hf
  simp [gLawJobs]
  refine (ht (N + 2 * m) p m hp (by omega) (by have : (2 : Int) ^ 30 < 2 ^ 1000 := by decide +kernel
                                               omega)).use ?_
  rintro _ _ ⟨d, q, rfl, rfl, d0, d1, hq⟩
  obtain ⟨j, rfl⟩ := Int.eq_ofNat_of_zero_le d0
  have hj : j < m := by omega
  simp
  have e1 : (1 + (j : Int)) = ((1 + j : Nat) : Int) := by omega
  rw [e1]
  refine (hf (N + (1 + j)) (1 + j) q (hq.mono (by omega)) (by omega)).use ?_
  rintro _ _ ⟨ns, q2, rfl, rfl, hn, hpool, hlen, hq2⟩
  simp
  refine ⟨by omega, ?_⟩
  refine goT_wp (enc := D.str) (fun xs acc ρ => ∃ (q : T) (s3 : Sl) (jm : List (Str × Str)), ρ = [.own q, .val (.int m), .val (.lst (strL mans)), s3] ∧ acc = jm.map pairS ∧ jm.map (·.1) ++ xs = ns ∧ (∀ x ∈ jm.map (·.2), x ∈ mans) ∧ PotT (N + xs.length) q) ?_ ?_ ns [] _ ⟨q2, .unb, [], rfl, rfl, rfl, by simp, by rw [hlen]; exact hq2⟩
  · rintro ds ρ' ⟨q, s3, jm, rfl, rfl, e, hmm, hq⟩
    simp only [List.append_nil] at e
    subst e
    simp only [List.length_map] at hlen
    refine hid ⟨jm, q, by simp, by simp, ⟨hn, hpool, hmm, by omega⟩, by omega, by simpa using hq⟩
  · rintro x xs acc ρ ⟨q, s3, jm, rfl, rfl, e, hmm, hq⟩
    simp
    refine (ho (N + xs.length) q (strL mans) hq (by simpa [strL] using hm) (by simp only [strL, List.length_map]; omega)).use ?_
    rintro _ _ ⟨d, q2, rfl, rfl, hd, hq2⟩
    simp only [strL, List.mem_map] at hd
    obtain ⟨y, hy, rfl⟩ := hd
    simp
    refine hid ⟨q2, _, jm ++ [(x, y)], rfl, by simp [pairS], by simp [← e], ?_, hq2⟩
    intro z hz
    simp only [List.map_append, List.mem_append] at hz
    rcases hz with hz | hz
    · exact hmm z hz
    · simp at hz; subst hz; exact hy
end
end Eg
set_option Elab.async false
set_option linter.all false
set_option maxRecDepth 8000
set_option maxHeartbeats 4000000
/-! words.py, days.py: what the defs tell -/
namespace Eg
open PySem
def asciiB (s : Str) : Bool := s.cps.toList.all fun c => decide (c < 128)
mutual
/-- any value that a law hands in: plain data of no great lengths -/
def D.fine : D → Bool
  | .str s => asciiB s && decide (s.length ≤ 8000)
  | .tup xs => decide (xs.length ≤ 8000) && D.fines xs
  | .lst xs => decide (xs.length ≤ 8000) && D.fines xs
  | .dic ks vs => decide (ks.length ≤ 8000) && D.fines vs
  | .ins _ _ => false
  | .exc _ _ => false
  | .pr _ => false
  | _ => true
def D.fines : List D → Bool
  | [] => true
  | x :: xs => D.fine x && D.fines xs
end
theorem fines_all : ∀ {xs : List D}, D.fines xs = true ↔ ∀ x ∈ xs, D.fine x = true
  | [] => by simp [D.fines]
  | x :: xs => by simp [D.fines, fines_all (xs := xs)]
theorem fine_tup {xs : List D} : D.fine (.tup xs) = true ↔ xs.length ≤ 8000 ∧ ∀ x ∈ xs, D.fine x = true := by
  simp [D.fine, fines_all]
theorem fine_lst {xs : List D} : D.fine (.lst xs) = true ↔ xs.length ≤ 8000 ∧ ∀ x ∈ xs, D.fine x = true := by
  simp [D.fine, fines_all]
theorem not_pr {v : D} (h : v.fine = true) : v.isPr = false := by
  cases v with
  | pr xs => simp [D.fine] at h
  | _ => rfl
def isTupB : D → Bool
  | .tup _ => true
  | _ => false
def isStrB : D → Bool
  | .str _ => true
  | _ => false
def isLstB : D → Bool
  | .lst _ => true
  | _ => false
def isBlB : D → Bool
  | .bl _ => true
  | _ => false
def isIntB : D → Bool
  | .bl _ => true
  | .int _ => true
  | _ => false
section
variable {S : Stat} {R : D → Option Str} {n : Nat} {fns : List Fn} {k : Nat}
theorem isi_tup {v : D} (h : v.fine = true) : isiD S v (.inr "tuple") = some (isTupB v) := by
  cases v <;> first | (simp [D.fine] at h; done) | simp [isiD, isBlt, tgNs, isTy, D.ty, isTupB]
theorem isi_str {v : D} (h : v.fine = true) : isiD S v (.inr "str") = some (isStrB v) := by
  cases v <;> first | (simp [D.fine] at h; done) | simp [isiD, isBlt, tgNs, isTy, D.ty, isStrB]
theorem isi_bool {v : D} (h : v.fine = true) : isiD S v (.inr "bool") = some (isBlB v) := by
  cases v <;> first | (simp [D.fine] at h; done) | simp [isiD, isBlt, tgNs, isTy, D.ty, isBlB]
theorem isi_int {v : D} (h : v.fine = true) : isiD S v (.inr "int") = some (isIntB v) := by
  cases v <;> first | (simp [D.fine] at h; done) | simp [isiD, isBlt, tgNs, isTy, D.ty, isIntB]
/-- is_tuple: value, many -/
def gIsTuple : Sts :=
  (.cons (.ret (.and (.isi (.var 0) (.inr "tuple")) (.and (.cst (.bl true)) (.cmp .Eq (.bi .len (.cons false (.var 0) .nil)) (.var 1)))))
  .nil)
def tupLen (v : D) (m : Int) : Bool := match v with
  | .tup xs => decide ((xs.length : Int) = m)
  | _ => false
def IsTupleP (F : Nat → Env → OutF) (i : Nat) : Prop := ∀ (v : D) (m : Int), v.fine = true → F i [.val v, .val (.int m)] = .ret (.fr (.bl (tupLen v m))) [.val v, .val (.int m)]
theorem isTuple_P {i : Nat} (h : fns[i]? = some ⟨2, 2, [], gIsTuple⟩) : IsTupleP (evF S R n fns (k + 1)) i := by
  intro v m hv
  refine eq_of_wp (f_wp h rfl ?_)
  simp [gIsTuple, isi_tup hv]
  cases v <;> simp [isTupB] <;> exact hid (by simp [tupLen])
/-- is_word: value, words -/
def gIsWord : Sts :=
  (.cons (.ret (.and (.isi (.var 0) (.inr "str")) (.and (.cst (.bl true)) (.cmp .In (.var 0) (.var 1)))))
  .nil)
def wordIn (v : D) (ws : List Str) : Bool := match v with
  | .str s => decide (s ∈ ws)
  | _ => false
def IsWordP (F : Nat → Env → OutF) (i : Nat) : Prop := ∀ (v : D) (ws : List Str), v.fine = true → F i [.val v, .val (.tup (strL ws))] = .ret (.fr (.bl (wordIn v ws))) [.val v, .val (.tup (strL ws))]
theorem isWord_P {i : Nat} (h : fns[i]? = some ⟨2, 2, [], gIsWord⟩) : IsWordP (evF S R n fns (k + 1)) i := by
  intro v ws hv
  refine eq_of_wp (f_wp h rfl ?_)
  simp [gIsWord, isi_str hv, strL]
  cases v <;> simp [isStrB] <;> exact hid (by simp [wordIn])
/-- is_event: jobs, value -/
def gIsEvent (iIsTuple iIsWord : Nat) : Sts :=
  (.cons (.ret (.and (.call iIsTuple (.cons true (.var 1) (.cons true (.cst (.int 2)) .nil))) (.and (.call iIsWord (.cons true (.ix (.var 1) (.cst (.int 0))) (.cons true (.tup (.cons false (.cst (.str "begin")) (.cons false (.cst (.str "end")) .nil))) .nil))) (.and (.cst (.bl true)) (.call iIsWord (.cons true (.ix (.var 1) (.cst (.int 1))) (.cons true (.var 0) .nil)))))))
  .nil)
def isEvt (js : List Str) (v : D) : Bool := match v with
  | .tup [a, b] => wordIn a ["begin", "end"] && wordIn b js
  | _ => false
theorem tup2_of {v : D} (h : tupLen v 2 = true) : ∃ a b, v = .tup [a, b] := by
  cases v with
  | tup xs =>
    simp only [tupLen, decide_eq_true_eq] at h
    match xs, h with
    | [a, b], _ => exact ⟨a, b, rfl⟩
    | [], h => simp at h
    | [_], h => simp at h
    | _ :: _ :: _ :: r, h => simp at h; omega
  | _ => simp [tupLen] at h
theorem isEvt_no {js : List Str} {v : D} (h : tupLen v 2 = false) : isEvt js v = false := by
  unfold isEvt
  split
  · simp [tupLen] at h
  · rfl
def IsEventP (F : Nat → Env → OutF) (i : Nat) : Prop := ∀ (v : D) (js : List Str), v.fine = true → F i [.val (.tup (strL js)), .val v] = .ret (.fr (.bl (isEvt js v))) [.val (.tup (strL js)), .val v]
theorem isEvent_P {i t w : Nat} (h : fns[i]? = some ⟨2, 2, [], gIsEvent t w⟩) (ht : IsTupleP (evF S R n fns k) t) (hw : IsWordP (evF S R n fns k) w) : IsEventP (evF S R n fns (k + 1)) i := by
  intro v js hv
  refine eq_of_wp (f_wp h rfl ?_)
  generalize evF S R n fns k = F at ht hw
  simp [gIsEvent, ht v 2 hv]
  cases e : tupLen v 2 with
  | false => simp; exact hid (by simp [isEvt_no e])
  | true =>
    obtain ⟨a, b, rfl⟩ := tup2_of e
    have hf := (fine_tup.mp hv).2
    have e1 : F w [.val a, .val (.tup [.str "begin", .str "end"])] = _ := hw a ["begin", "end"] (hf a (by simp))
    have e2 := hw b js (hf b (by simp))
    simp [e1]
    cases e3 : wordIn a ["begin", "end"] <;> simp [e2] <;> exact hid (by simp [isEvt, e3])
end
end Eg
set_option Elab.async false
set_option linter.all false
set_option maxRecDepth 8000
set_option maxHeartbeats 4000000
/-! days.py: events, standings -/
namespace Eg
open PySem
abbrev St2 := List (Int × Int)
def pairI (p : Int × Int) : D := .tup [.int p.1, .int p.2]
/-- standings as the program has them -/
def stD (st : St2) : D := .tup (st.map pairI)
def st0 (n : Nat) : St2 := List.replicate n (0, 0)
def ccAt (js : List Str) (st : St2) (x n : Str) : Bool := match strIx n js with
  | some j => match st[j]? with
    | some p => decide (x = "begin") || (decide (x = "end") && decide (p.2 < p.1))
    | none => false
  | none => false
/-- whether a value is an event that can come behind a standing -/
def cc (js : List Str) (st : St2) (v : D) : Bool := match v with
  | .tup [.str x, .str n] => ccAt js st x n
  | _ => false
def bhAt (js : List Str) (st : St2) (x n : Str) : St2 := match strIx n js with
  | some j => match st[j]? with
    | some p => st.set j (if x = "begin" then (p.1 + 1, p.2) else (p.1, p.2 + 1))
    | none => st
  | none => st
/-- the standing behind an event -/
def bh (js : List Str) (st : St2) (v : D) : St2 := match v with
  | .tup [.str x, .str n] => bhAt js st x n
  | _ => st
theorem bh_len (js : List Str) (st : St2) (v : D) : (bh js st v).length = st.length := by
  unfold bh
  split
  · unfold bhAt
    split
    · split <;> simp
    · rfl
  · rfl
theorem ix_mem {n : Str} : ∀ {js : List Str}, n ∈ js → ∃ j, strIx n js = some j ∧ j < js.length
  | [], h => by simp at h
  | y :: ys, h => by
    by_cases e : y = n
    · exact ⟨0, by simp [strIx, e], by simp⟩
    · obtain ⟨j, h1, h2⟩ := ix_mem (n := n) (js := ys) (by simpa [Ne.symm e] using h)
      exact ⟨j + 1, by simp [strIx, e, h1], by simp; omega⟩
theorem mem_ix {n : Str} : ∀ {js : List Str} {j : Nat}, strIx n js = some j → n ∈ js ∧ j < js.length
  | [], j, h => by simp [strIx] at h
  | y :: ys, j, h => by
    by_cases e : y = n
    · subst e
      simp [strIx] at h
      subst h
      exact ⟨by simp, by simp⟩
    · simp only [strIx, if_neg e, Option.map_eq_some_iff] at h
      obtain ⟨m, hm, rfl⟩ := h
      have := mem_ix hm
      exact ⟨List.mem_cons_of_mem _ this.1, by simp; omega⟩
theorem atI_nat {α : Type} {xs : List α} {j : Nat} {x : α} (h : xs[j]? = some x) : L2.atI xs (j : Int) = some x := by
  obtain ⟨hj, hx⟩ := List.getElem?_eq_some_iff.mp h
  simp [L2.atI, L2.ixN, hj, hx]
theorem sIx_nat {n d j : Nat} (h : j ≤ n) : HT.sIx n d (some (j : Int)) = j := by
  rw [HT.sIx_nat]
  omega
theorem sIx_none {n d : Nat} : HT.sIx n d none = d := by
  unfold HT.sIx
  rfl
theorem slTo {xs : List D} {j : Nat} (h : j ≤ xs.length) : slD (.tup xs) none (some (j : Int)) = some (.fr (.tup (xs.take j))) := by
  simp only [slD, sIx_nat h, sIx_none, List.drop_zero, Nat.sub_zero]
theorem slFrom0 {xs : List D} {j : Nat} (h : j ≤ xs.length) : slD (.tup xs) (some (j : Int)) none = some (.fr (.tup (xs.drop j))) := by
  simp only [slD, sIx_nat h, sIx_none]
  rw [List.take_of_length_le (by rw [List.length_drop]; omega)]
theorem slFrom {xs : List D} {j : Nat} (h : j + 1 ≤ xs.length) : slD (.tup xs) (some ((j : Int) + 1)) none = some (.fr (.tup (xs.drop (j + 1)))) := by
  have e : ((j : Int) + 1) = ((j + 1 : Nat) : Int) := by omega
  rw [e]; exact slFrom0 h
section
variable {S : Stat} {R : D → Option Str} {n : Nat} {fns : List Fn} {k : Nat}
theorem isEvt_str {js : List Str} {v : D} (h : isEvt js v = true) : ∃ x m j, v = .tup [.str x, .str m] ∧ (x = "begin" ∨ x = "end") ∧ strIx m js = some j ∧ j < js.length := by
  unfold isEvt at h
  split at h
  · rename_i a b
    simp only [Bool.and_eq_true] at h
    cases a with
    | str x =>
      cases b with
      | str m =>
        simp only [wordIn, decide_eq_true_eq] at h
        obtain ⟨j, h1, h2⟩ := ix_mem h.2
        exact ⟨x, m, j, rfl, by simpa using h.1, h1, h2⟩
      | _ => simp [wordIn] at h
    | _ => simp [wordIn] at h
  · simp at h
theorem cc_evt {js : List Str} {st : St2} {v : D} (hl : st.length = js.length) (h : isEvt js v = false) : cc js st v = false := by
  unfold cc
  split
  · rename_i x m
    unfold ccAt
    split
    · rename_i j e
      have := mem_ix e
      simp only [isEvt, wordIn, this.1, decide_true, Bool.and_true, decide_eq_false_iff_not] at h
      split
      · simp only [List.mem_cons, List.not_mem_nil, or_false, not_or] at h
        simp [h.1, h.2]
      · rfl
    · rfl
  · rfl
/-- can_come: jobs, standing, value, begun, ended -/
def gCanCome (iIsEvent : Nat) : Sts :=
  (.cons (.ifs (.not (.ex (.call iIsEvent (.cons true (.var 0) (.cons true (.var 2) .nil))))) (.cons (.ret (.cst (.bl false)))
  .nil) .nil)
  (.cons (.asgT (.tp [(.nm 3), (.nm 4)]) (.ix (.var 1) (.m1 .index (.var 0) (.ix (.var 2) (.cst (.int 1))))))
  (.cons (.ret (.or (.cmp .Eq (.ix (.var 2) (.cst (.int 0))) (.cst (.str "begin"))) (.and (.cst (.bl true)) (.cmp .Lt (.var 4) (.var 3)))))
  .nil)))
def CanComeP (F : Nat → Env → OutF) (i : Nat) : Prop := ∀ (v : D) (js : List Str) (st : St2), v.fine = true → st.length = js.length → F i [.val (.tup (strL js)), .val (stD st), .val v] = .ret (.fr (.bl (cc js st v))) [.val (.tup (strL js)), .val (stD st), .val v]
theorem canCome_P {i e : Nat} (h : fns[i]? = some ⟨3, 5, [], gCanCome e⟩) (he : IsEventP (evF S R n fns k) e) : CanComeP (evF S R n fns (k + 1)) i := by
  intro v js st hv hl
  refine eq_of_wp (f_wp h rfl ?_)
  generalize evF S R n fns k = F at he
  simp [gCanCome, he v js hv]
  cases hn : isEvt js v with
  | false => simp; exact hid (by simp [cc_evt hl hn])
  | true =>
    obtain ⟨x, m, j, rfl, hx, hj, hjl⟩ := isEvt_str hn
    have hs : st[j]? = some st[j] := List.getElem?_eq_getElem (by omega)
    have ixj : atD (st.map pairI) (j : Int) = some (pairI st[j]) := atI_nat (by rw [List.getElem?_map, hs]; rfl)
    simp [strL, strsD_map, hj, stD, ixj]
    generalize st[j] = p at hs ixj
    simp [pairI]
    rcases hx with rfl | rfl
    · simp; exact hid (by simp [cc, ccAt, hj, hs])
    · simp [show ¬ (("end" : Str) = "begin") by decide]; exact hid (by simp [cc, ccAt, hj, hs, show ¬ (("end" : Str) = "begin") by decide])
/-- behind: jobs, standing, event, at, begun, ended, pair -/
def gBehind : Sts :=
  (.cons (.asg 3 (.m1 .index (.var 0) (.ix (.var 2) (.cst (.int 1)))))
  (.cons (.asgT (.tp [(.nm 4), (.nm 5)]) (.ix (.var 1) (.var 3)))
  (.cons (.asg 6 (.ite (.ex (.cmp .Eq (.ix (.var 2) (.cst (.int 0))) (.cst (.str "begin")))) (.tup (.cons false (.bin .Add (.var 4) (.cst (.int 1))) (.cons false (.var 5) .nil))) (.tup (.cons false (.var 4) (.cons false (.bin .Add (.var 5) (.cst (.int 1))) .nil)))))
  (.cons (.ret (.tup (.cons true (.sl (.var 1) .none (.var 3)) (.cons false (.var 6) (.cons true (.sl (.var 1) (.bin .Add (.var 3) (.cst (.int 1))) .none) .nil)))))
  .nil))))
def BehindP (F : Nat → Env → OutF) (i : Nat) : Prop := ∀ (v : D) (js : List Str) (st : St2), isEvt js v = true → st.length = js.length → st.length ≤ 8000 → F i [.val (.tup (strL js)), .val (stD st), .val v] = .ret (.fr (stD (bh js st v))) [.val (.tup (strL js)), .val (stD st), .val v]
theorem set_td {st : St2} {j : Nat} (hj : j < st.length) (p : Int × Int) : st.set j p = st.take j ++ p :: st.drop (j + 1) := by rw [List.set_eq_take_append_cons_drop, if_pos hj]
theorem behind_P {i : Nat} (h : fns[i]? = some ⟨3, 7, [], gBehind⟩) : BehindP (evF S R n fns (k + 1)) i := by
  intro v js st hn hl hf
  refine eq_of_wp (f_wp h rfl ?_)
  generalize evF S R n fns k = F
  obtain ⟨x, m, j, rfl, hx, hj, hjl⟩ := isEvt_str hn
  have hs : st[j]? = some st[j] := List.getElem?_eq_getElem (by omega)
  have ixj : atD (st.map pairI) (j : Int) = some (pairI st[j]) := atI_nat (by rw [List.getElem?_map, hs]; rfl)
  have s1 := slTo (xs := st.map pairI) (j := j) (by rw [List.length_map]; omega)
  have s2 := slFrom (xs := st.map pairI) (j := j) (by rw [List.length_map]; omega)
  simp [gBehind, strL, strsD_map, hj, stD, ixj]
  generalize st[j] = p at hs ixj
  simp [pairI]
  rcases hx with rfl | rfl
  · simp [s1, s2]
    exact ⟨by omega, hid (by simp [bh, bhAt, hj, hs, stD, set_td (show j < st.length by omega), pairI])⟩
  · simp [s1, s2, show ¬ (("end" : Str) = "begin") by decide]
    exact ⟨by omega, hid (by simp [bh, bhAt, hj, hs, stD, set_td (show j < st.length by omega), pairI, show ¬ (("end" : Str) = "begin") by decide])⟩
end
end Eg
set_option Elab.async false
set_option linter.all false
set_option maxRecDepth 8000
set_option maxHeartbeats 4000000
/-! days.py: rows -/
namespace Eg
open PySem
/-- the standings behind the events of a row -/
def walk (js : List Str) : St2 → List D → Option (List St2)
  | _, [] => some []
  | st, x :: xs => if cc js st x then (walk js (bh js st x) xs).map (bh js st x :: ·) else none
def walkD (js : List Str) (v : D) (most : Nat) : D := match v with
  | .tup xs => if xs.length ≤ most then (match walk js (st0 js.length) xs with
    | some ss => .tup (ss.map stD)
    | none => .non) else .non
  | _ => .non
theorem cc_evtT {js : List Str} {st : St2} {v : D} (hl : st.length = js.length) (h : cc js st v = true) : isEvt js v = true := by
  cases e : isEvt js v with
  | true => rfl
  | false => rw [cc_evt hl e] at h; cases h
theorem slL {xs : List D} {j : Nat} (h : j ≤ xs.length) : slD (.lst xs) (some (j : Int)) none = some (.lst ((xs.drop j).map .fr)) := by
  simp only [slD, sIx_nat h, sIx_none]
  rw [List.take_of_length_le (by rw [List.length_drop]; omega)]
section
variable {S : Stat} {R : D → Option Str} {n : Nat} {fns : List Fn} {k : Nat}
/-- walked: jobs, value, most, found, event, job -/
def gWalked (iCanCome iBehind : Nat) : Sts :=
  (.cons (.ifs (.or (.not (.ex (.isi (.var 1) (.inr "tuple")))) (.ex (.cmp .Gt (.bi .len (.cons false (.var 1) .nil)) (.var 2)))) (.cons (.ret (.cst .non))
  .nil) .nil)
  (.cons (.asg 3 (.lst (.cons false (.bi .tuple (.cons false (.comp (.tup (.cons false (.cst (.int 0)) (.cons false (.cst (.int 0)) .nil))) (.nm 5) (.seq (.var 0)) .tt [5]) .nil)) .nil)))
  (.cons (.for_ (.nm 4) (.seq (.var 1)) (.cons (.ifs (.not (.ex (.call iCanCome (.cons true (.var 0) (.cons true (.ix (.var 3) (.neg (.cst (.int 1)))) (.cons true (.var 4) .nil)))))) (.cons (.ret (.cst .non))
  .nil) .nil)
  (.cons (.app 3 (.call iBehind (.cons true (.var 0) (.cons true (.ix (.var 3) (.neg (.cst (.int 1)))) (.cons true (.var 4) .nil)))))
  .nil)))
  (.cons (.ret (.bi .tuple (.cons false (.sl (.var 3) (.cst (.int 1)) .none) .nil)))
  .nil))))
def WalkedP (F : Nat → Env → OutF) (i : Nat) : Prop := ∀ (v : D) (js : List Str) (m : Nat), v.fine = true → js.length ≤ 8000 → F i [.val (.tup (strL js)), .val v, .val (.int (m : Int))] = .ret (.fr (walkD js v m)) [.val (.tup (strL js)), .val v, .val (.int (m : Int))]
theorem walked_P {i c b : Nat} (h : fns[i]? = some ⟨3, 6, [3], gWalked c b⟩) (hc : CanComeP (evF S R n fns k) c) (hb : BehindP (evF S R n fns k) b) : WalkedP (evF S R n fns (k + 1)) i := by
  intro v js m hv hjl
  refine eq_of_wp (f_wp h rfl ?_)
  generalize evF S R n fns k = F at hc hb
  simp [gWalked, isi_tup hv]
  cases v with
  | tup xs =>
    obtain ⟨hl, hf⟩ := fine_tup.mp hv
    simp [isTupB]
    by_cases hm : m < xs.length
    · simp [hm]; exact hid (by simp [walkD, show ¬ xs.length ≤ m by omega])
    · simp [hm]
      refine ⟨by omega, ?_⟩
      refine go_map (enc := D.str) (fun _ => pairI (0, 0)) js [] _ ?_ ?_
      · intro x hx
        exact ⟨_, by simp; rfl, by simp; exact ⟨hid rfl, hid rfl⟩, by exact hid rfl⟩
      simp
      refine for_wp (fun ys ρ => ∃ (ds : List D) (ss : List St2) (cur : St2) (s4 : Sl), ρ = [.val (.tup (strL js)), .val (.tup xs), .val (.int m), .own (.lst (ds.map .fr)), s4, .unb] ∧ ds = ss.map stD ++ [stD cur] ∧ (∃ tt, ss ++ [cur] = st0 js.length :: tt ∧ walk js (st0 js.length) xs = (walk js cur ys).map (tt ++ ·)) ∧ cur.length = js.length ∧ (∀ y ∈ ys, y.fine = true) ∧ ss.length + ys.length = xs.length) ?_ ?_ _ _ ?_
      rotate_left 2
      · exact ⟨[stD (st0 js.length)], [], st0 js.length, .unb, by simp [stD, st0, pairI, List.map_const'], by simp, ⟨[], rfl, by simp⟩, by simp [st0], hf, by simp⟩
      · rintro ρ ⟨ds, ss, cur, s4, rfl, hds, ⟨tt, e, ew⟩, hcl, -, hlen⟩
        have e2 : ds = stD (st0 js.length) :: tt.map stD := by
          rw [hds]
          have := congrArg (List.map stD) e
          simpa using this
        simp
        have e3 : slD (.lst ds) (some 1) none = some (.lst ((ds.drop 1).map .fr)) := slL (j := 1) (by rw [e2]; simp)
        simp [e3]
        refine hid ?_
        simp only [walk] at ew
        simp [walkD, show xs.length ≤ m by omega, ew, e2]
      · rintro y ys ρ ⟨ds, ss, cur, s4, rfl, hds, ⟨tt, e, ew⟩, hcl, hyf, hlen⟩
        have hy := hyf y (by simp)
        have hla : atD ds (-1) = some (stD cur) := by rw [hds]; simp
        refine ⟨_, by simp [not_pr hy]; rfl, ?_⟩
        simp [hla, hc y js cur hy hcl]
        cases ec : cc js cur y with
        | false =>
          simp
          exact hid (by simp [walkD, show xs.length ≤ m by omega, ew, walk, ec])
        | true =>
          simp [hla, hb y js cur (cc_evtT hcl ec) hcl (by omega)]
          simp only [List.length_cons] at hlen
          refine ⟨by rw [hds]; simp; omega, hid ⟨ds ++ [stD (bh js cur y)], ss ++ [cur], bh js cur y, .val y, by simp, by simp [hds], ⟨tt ++ [bh js cur y], by rw [← List.cons_append, ← e], ?_⟩, by rw [bh_len]; exact hcl, fun z hz => hyf z (by simp [hz]), by simp; omega⟩⟩
          rw [ew]
          simp only [walk, ec, if_true, Option.map_map]
          congr 1
          funext q
          simp
  | _ => simp [isTupB]; exact hid (by simp [walkD])
end
end Eg
set_option Elab.async false
set_option linter.all false
set_option maxRecDepth 8000
set_option maxHeartbeats 4000000
/-! the laws' own rows -/
namespace Eg
open PySem
def nmsOf (jm : List (Str × Str)) : List Str := jm.map (·.1)
@[simp] theorem nms_len {jm : List (Str × Str)} : (nmsOf jm).length = jm.length := by simp [nmsOf]
theorem nms_L {jm : List (Str × Str)} : jm.map (fun p => D.str p.1) = strL (nmsOf jm) := by simp [nmsOf, strL]
theorem allB_map {γ : Type} {f : γ → Bool} : ∀ xs : List γ, allB (xs.map fun x => .bl (f x)) = some (xs.all f)
  | [] => rfl
  | x :: xs => by simp [allB, allB_map xs]
theorem anyB_map {γ : Type} {f : γ → Bool} : ∀ xs : List γ, anyB (xs.map fun x => .bl (f x)) = some (xs.any f)
  | [] => rfl
  | x :: xs => by simp [anyB, anyB_map xs]
/-- counts in sequence, to a bound -/
structure StIn (js : List Str) (st : St2) (m : Int) : Prop where
  len : st.length = js.length
  lo : ∀ p ∈ st, 0 ≤ p.2 ∧ p.2 ≤ p.1 ∧ p.1 ≤ m
def okP (p : Int × Int) : Bool := decide (p.2 ≤ p.1) && decide (p.1 ≤ 40)
def lcc (js : List Str) (st : St2) (v : D) : Bool := (bh js st v).all okP
theorem evt_ne : ¬ (("end" : Str) = "begin") := by decide
theorem bh_at {js : List Str} {st : St2} {x m : Str} {j : Nat} {p : Int × Int} (hj : strIx m js = some j) (hs : st[j]? = some p) : bh js st (.tup [.str x, .str m]) = st.set j (if x = "begin" then (p.1 + 1, p.2) else (p.1, p.2 + 1)) := by
  simp [bh, bhAt, hj, hs]
theorem cc_at {js : List Str} {st : St2} {x m : Str} {j : Nat} {p : Int × Int} (hj : strIx m js = some j) (hs : st[j]? = some p) : cc js st (.tup [.str x, .str m]) = (decide (x = "begin") || (decide (x = "end") && decide (p.2 < p.1))) := by
  simp [cc, ccAt, hj, hs]
theorem lcc_cc {js : List Str} {st : St2} {v : D} {m : Int} (h : StIn js st m) (hm : m < 40) (he : isEvt js v = true) : lcc js st v = cc js st v := by
  obtain ⟨x, n, j, rfl, hx, hj, hjl⟩ := isEvt_str he
  have hjs : j < st.length := by rw [h.len]; exact hjl
  have hs : st[j]? = some st[j] := List.getElem?_eq_getElem hjs
  have hp := h.lo st[j] (List.getElem_mem hjs)
  rw [cc_at hj hs, lcc, bh_at hj hs]
  generalize st[j] = p at hs hp
  have hrest : ∀ q ∈ st, okP q = true := fun q hq => by
    have := h.lo q hq
    simp only [okP, Bool.and_eq_true, decide_eq_true_eq]; omega
  have key : ∀ q : Int × Int, (st.set j q).all okP = okP q := fun q => by
    cases e : okP q with
    | true =>
      rw [List.all_eq_true]
      intro y hy
      rcases List.mem_or_eq_of_mem_set hy with z | z
      · exact hrest y z
      · rw [z]; exact e
    | false =>
      rw [List.all_eq_false]
      exact ⟨q, List.mem_set hjs q, by simp [e]⟩
  rw [key]
  rcases hx with rfl | rfl
  · simp only [if_true, decide_true, Bool.true_or, okP, Bool.and_eq_true, decide_eq_true_eq]; omega
  · simp only [evt_ne, if_false, okP, decide_false, Bool.false_or, decide_true, Bool.true_and]
    by_cases z : p.2 < p.1
    · simp [z]; omega
    · simp [z]; omega
theorem bh_in {js : List Str} {st : St2} {v : D} {m : Int} (h : StIn js st m) (hc : cc js st v = true) : StIn js (bh js st v) (m + 1) := by
  have he := cc_evtT h.len hc
  refine ⟨by rw [bh_len]; exact h.len, ?_⟩
  obtain ⟨x, n, j, rfl, hx, hj, hjl⟩ := isEvt_str he
  have hjs : j < st.length := by rw [h.len]; exact hjl
  have hs : st[j]? = some st[j] := List.getElem?_eq_getElem hjs
  have hp := h.lo st[j] (List.getElem_mem hjs)
  rw [cc_at hj hs] at hc
  rw [bh_at hj hs]
  generalize st[j] = p at hs hp hc
  intro y hy
  rcases List.mem_or_eq_of_mem_set hy with z | z
  · have := h.lo y z; omega
  · rw [z]
    rcases hx with rfl | rfl
    · simp only [if_true]; omega
    · simp [evt_ne] at hc ⊢; omega
theorem st0_in (js : List Str) : StIn js (st0 js.length) 0 := ⟨by simp [st0], fun p hp => by
  have := (List.mem_replicate.mp hp).2
  subst this
  decide⟩
theorem walk_all {js : List Str} : ∀ {xs : List D} {st : St2} {ss : List St2}, st.length = js.length → walk js st xs = some ss → ∀ x ∈ xs, isEvt js x = true
  | [], _, _, _, _, _, h => by simp at h
  | y :: ys, st, ss, hl, e, x, h => by
    simp only [walk] at e
    split at e
    · rename_i hc
      rcases List.mem_cons.mp h with rfl | h
      · exact cc_evtT hl hc
      · cases e2 : walk js (bh js st y) ys with
        | none => rw [e2] at e; cases e
        | some s2 => exact walk_all (by rw [bh_len]; exact hl) e2 x h
    · cases e
section
variable {S : Stat} {R : D → Option Str} {n : Nat} {fns : List Fn} {k : Nat}
/-- _law_first: _law_jobs_here, _law_job -/
def gLawFirst : Sts :=
  (.cons (.ret (.bi .tuple (.cons false (.comp (.tup (.cons false (.cst (.int 0)) (.cons false (.cst (.int 0)) .nil))) (.nm 1) (.seq (.var 0)) .tt [1]) .nil)))
  .nil)
def LFirstP (F : Nat → Env → OutF) (i : Nat) : Prop := ∀ (jm : List (Str × Str)), jm.length ≤ 8000 → F i [.val (jmD jm)] = .ret (.fr (stD (st0 jm.length))) [.val (jmD jm)]
theorem lfirst_P {i : Nat} (h : fns[i]? = some ⟨1, 2, [], gLawFirst⟩) : LFirstP (evF S R n fns (k + 1)) i := by
  intro jm hl
  refine eq_of_wp (f_wp h rfl ?_)
  generalize evF S R n fns k = F
  simp [gLawFirst, jmD]
  refine ⟨by omega, ?_⟩
  refine go_map (enc := pairS) (fun _ => pairI (0, 0)) jm [] _ ?_ ?_
  · intro x hx
    exact ⟨_, by simp [pairS]; rfl, by simp; exact ⟨hid rfl, hid rfl⟩, by exact hid rfl⟩
  simp
  exact hid ⟨by simp [stD, st0, List.map_const'], by simp [jmD]⟩
/-- _law_is_event: _law_jobs_here, _law_value, _law_part, _law_name, _law_manner -/
def gLawIsEvent : Sts :=
  (.cons (.ifs (.or (.not (.ex (.isi (.var 1) (.inr "tuple")))) (.or (.ex (.cmp .NotEq (.bi .len (.cons false (.var 1) .nil)) (.cst (.int 2)))) (.not (.ex (.bi .all (.cons false (.comp (.isi (.var 2) (.inr "str")) (.nm 2) (.seq (.var 1)) .tt [2]) .nil)))))) (.cons (.ret (.cst (.bl false)))
  .nil) .nil)
  (.cons (.ret (.and (.cmp .In (.ix (.var 1) (.cst (.int 0))) (.tup (.cons false (.cst (.str "begin")) (.cons false (.cst (.str "end")) .nil)))) (.and (.cst (.bl true)) (.cmp .In (.ix (.var 1) (.cst (.int 1))) (.comp (.var 3) (.tp [(.nm 3), (.nm 4)]) (.seq (.var 0)) .tt [3, 4])))))
  .nil))
def LIsEventP (F : Nat → Env → OutF) (i : Nat) : Prop := ∀ (v : D) (jm : List (Str × Str)), v.fine = true → jm.length ≤ 8000 → F i [.val (jmD jm), .val v] = .ret (.fr (.bl (isEvt (nmsOf jm) v))) [.val (jmD jm), .val v]
theorem lisEvent_P {i : Nat} (h : fns[i]? = some ⟨2, 5, [], gLawIsEvent⟩) : LIsEventP (evF S R n fns (k + 1)) i := by
  intro v jm hv hjl
  refine eq_of_wp (f_wp h rfl ?_)
  generalize evF S R n fns k = F
  cases v with
  | tup xs =>
    obtain ⟨hl, hf⟩ := fine_tup.mp hv
    simp [gLawIsEvent, isi_tup hv, isTupB]
    by_cases h2 : xs.length = 2
    · match xs, h2 with
      | [a, b], _ =>
        have ha := hf a (by simp)
        have hb := hf b (by simp)
        simp
        refine go_map (enc := fun x => x) (fun x => .bl (isStrB x)) [a, b] [] _ (fun x hx => ?_) ?_
        · have := hf x hx
          exact ⟨_, by simp [not_pr this]; rfl, by simp [isi_str this]; exact ⟨hid rfl, hid rfl⟩, by exact hid rfl⟩
        · have e : allB [D.bl (isStrB a), D.bl (isStrB b)] = some (isStrB a && isStrB b) := by simp [allB]
          simp [e]
          cases a with
          | str x =>
            cases b with
            | str m =>
              simp [isStrB]
              split
              · rename_i hx
                simp [jmD]
                refine ⟨by omega, ?_⟩
                refine go_map (enc := pairS) (fun p => .str p.1) jm [] _ ?_ ?_
                · intro x hx
                  exact ⟨_, by simp [pairS]; rfl, by simp; exact ⟨hid rfl, hid rfl⟩, by exact hid rfl⟩
                rw [nms_L]
                simp
                exact hid (by simp [isEvt, wordIn, hx, jmD])
              · rename_i hx
                rw [not_or] at hx
                exact hid (by simp [isEvt, wordIn, hx.1, hx.2])
            | _ => simp [isStrB]; exact hid (by simp [isEvt, wordIn])
          | _ => simp [isStrB]; exact hid (by simp [isEvt, wordIn])
      | [], h2 => simp at h2
      | [_], h2 => simp at h2
      | _ :: _ :: _ :: r, h2 => simp at h2
    · have : (xs.length : Int) ≠ 2 := by omega
      simp [this]
      exact hid (by simp [isEvt_no (show tupLen (.tup xs) 2 = false by simp [tupLen, this])])
  | _ => simp [gLawIsEvent, isi_tup hv, isTupB]; exact hid (by simp [isEvt])
/-- _law_behind: _law_jobs_here, _law_standing, _law_event, _law_at, _law_begun, _law_ended, _law_fresh, _law_name, _law_manner -/
def gLawBehind : Sts :=
  (.cons (.asg 3 (.m1 .index (.comp (.var 7) (.tp [(.nm 7), (.nm 8)]) (.seq (.var 0)) .tt [7, 8]) (.ix (.var 2) (.cst (.int 1)))))
  (.cons (.asgT (.tp [(.nm 4), (.nm 5)]) (.ix (.var 1) (.var 3)))
  (.cons (.asg 6 (.ite (.ex (.cmp .Eq (.ix (.var 2) (.cst (.int 0))) (.cst (.str "begin")))) (.tup (.cons false (.bin .Add (.var 4) (.cst (.int 1))) (.cons false (.var 5) .nil))) (.tup (.cons false (.var 4) (.cons false (.bin .Add (.var 5) (.cst (.int 1))) .nil)))))
  (.cons (.ret (.bin .Add (.bin .Add (.sl (.var 1) .none (.var 3)) (.tup (.cons false (.var 6) .nil))) (.sl (.var 1) (.bin .Add (.var 3) (.cst (.int 1))) .none)))
  .nil))))
def LBehindP (F : Nat → Env → OutF) (i : Nat) : Prop := ∀ (v : D) (jm : List (Str × Str)) (st : St2), isEvt (nmsOf jm) v = true → st.length = jm.length → st.length ≤ 8000 → F i [.val (jmD jm), .val (stD st), .val v] = .ret (.fr (stD (bh (nmsOf jm) st v))) [.val (jmD jm), .val (stD st), .val v]
theorem lbehind_P {i : Nat} (h : fns[i]? = some ⟨3, 9, [], gLawBehind⟩) : LBehindP (evF S R n fns (k + 1)) i := by
  intro v jm st hn hl hf
  refine eq_of_wp (f_wp h rfl ?_)
  generalize evF S R n fns k = F
  obtain ⟨x, m, j, rfl, hx, hj, hjl⟩ := isEvt_str hn
  rw [nms_len] at hjl
  have hs : st[j]? = some st[j] := List.getElem?_eq_getElem (by omega)
  have ixj : atD (st.map pairI) (j : Int) = some (pairI st[j]) := atI_nat (by rw [List.getElem?_map, hs]; rfl)
  have s1 := slTo (xs := st.map pairI) (j := j) (by rw [List.length_map]; omega)
  have s2 := slFrom (xs := st.map pairI) (j := j) (by rw [List.length_map]; omega)
  simp [gLawBehind, jmD]
  refine ⟨by omega, ?_⟩
  refine go_map (enc := pairS) (fun p => .str p.1) jm [] _ ?_ ?_
  · intro x hx
    exact ⟨_, by simp [pairS]; rfl, by simp; exact ⟨hid rfl, hid rfl⟩, by exact hid rfl⟩
  rw [nms_L]
  simp [hj, stD, ixj]
  generalize st[j] = p at hs ixj
  simp [pairI]
  rcases hx with rfl | rfl
  · simp [s1, s2, hj]
    exact ⟨by omega, by omega, hid ⟨by simp [bh, bhAt, hj, hs, set_td (show j < st.length by omega), pairI], by simp⟩⟩
  · simp [s1, s2, evt_ne, hj]
    exact ⟨by omega, by omega, hid ⟨by simp [bh, bhAt, hj, hs, set_td (show j < st.length by omega), pairI, evt_ne], by simp⟩⟩
end
end Eg
set_option Elab.async false
set_option linter.all false
set_option maxRecDepth 8000
set_option maxHeartbeats 4000000
/-! the laws' own rows: what can come, whether a value is one -/
namespace Eg
open PySem
def evtD (x m : Str) : D := .tup [.str x, .str m]
def allEv (js : List Str) : List D := js.flatMap fun m => [evtD "begin" m, evtD "end" m]
def isRowB (js : List Str) (v : D) : Bool := match v with
  | .tup xs => decide (xs.length ≤ 24) && (walk js (st0 js.length) xs).isSome
  | _ => false
section
variable {S : Stat} {R : D → Option Str} {n : Nat} {fns : List Fn} {k : Nat}
/-- _law_can_come: _law_jobs_here, _law_standing, _law_event, _law_behind_here, _law_begun, _law_ended -/
def gLawCanCome (iLawBehind : Nat) : Sts :=
  (.cons (.asg 3 (.call iLawBehind (.cons true (.var 0) (.cons true (.var 1) (.cons true (.var 2) .nil)))))
  (.cons (.ret (.bi .all (.cons false (.comp (.chain .LtE .LtE (.var 5) (.var 4) (.cst (.int 40))) (.tp [(.nm 4), (.nm 5)]) (.seq (.var 3)) .tt [4, 5]) .nil)))
  .nil))
def LCanComeP (F : Nat → Env → OutF) (i : Nat) : Prop := ∀ (v : D) (jm : List (Str × Str)) (st : St2), isEvt (nmsOf jm) v = true → st.length = jm.length → st.length ≤ 8000 → F i [.val (jmD jm), .val (stD st), .val v] = .ret (.fr (.bl (lcc (nmsOf jm) st v))) [.val (jmD jm), .val (stD st), .val v]
theorem lcanCome_P {i b : Nat} (h : fns[i]? = some ⟨3, 6, [], gLawCanCome b⟩) (hb : LBehindP (evF S R n fns k) b) : LCanComeP (evF S R n fns (k + 1)) i := by
  intro v jm st hn hl hf
  refine eq_of_wp (f_wp h rfl ?_)
  generalize evF S R n fns k = F at hb
  simp [gLawCanCome, hb v jm st hn hl hf]
  have hbl : (bh (nmsOf jm) st v).length = st.length := bh_len _ _ _
  simp only [lcc]
  generalize bh (nmsOf jm) st v = st' at hbl
  simp [stD]
  refine ⟨by omega, ?_⟩
  refine go_map (enc := pairI) (fun p => .bl (okP p)) st' [] _ ?_ ?_
  · intro x hx
    refine ⟨_, by simp [pairI]; rfl, ?_, by exact hid rfl⟩
    simp
    split
    · rename_i h1; exact ⟨hid (by simp [okP, h1]), hid rfl⟩
    · rename_i h1; exact ⟨hid (by simp [okP, h1]), hid rfl⟩
  · simp [allB_map]
    exact hid ⟨rfl, rfl⟩
/-- _law_events: _law_jobs_here, _law_standing, _law_some_here, _law_name, _law_manner, _law_event -/
def gLawEvents (iLawCanCome : Nat) : Sts :=
  (.cons (.asg 2 (.lst .nil))
  (.cons (.for_ (.tp [(.nm 3), (.nm 4)]) (.seq (.var 0)) (.cons (.ext 2 (.lst (.cons false (.tup (.cons false (.cst (.str "begin")) (.cons false (.var 3) .nil))) (.cons false (.tup (.cons false (.cst (.str "end")) (.cons false (.var 3) .nil))) .nil))))
  .nil))
  (.cons (.ret (.comp (.var 5) (.nm 5) (.seq (.var 2)) (.ex (.call iLawCanCome (.cons true (.var 0) (.cons true (.var 1) (.cons true (.var 5) .nil))))) [5]))
  .nil)))
def LEventsP (F : Nat → Env → OutF) (i : Nat) : Prop := ∀ (jm : List (Str × Str)) (st : St2), st.length = jm.length → st.length ≤ 8000 → F i [.val (jmD jm), .val (stD st)] = .ret (.lst (((allEv (nmsOf jm)).filter (lcc (nmsOf jm) st)).map .fr)) [.val (jmD jm), .val (stD st)]
theorem allEv_evt {js : List Str} {v : D} (h : v ∈ allEv js) : isEvt js v = true := by
  simp only [allEv, List.mem_flatMap, List.mem_cons, List.not_mem_nil, or_false] at h
  obtain ⟨m, hm, rfl | rfl⟩ := h
  · simp [isEvt, evtD, wordIn, hm]
  · simp [isEvt, evtD, wordIn, hm]
theorem allEv_cons (y : Str × Str) (ys : List (Str × Str)) : allEv (nmsOf (y :: ys)) = evtD "begin" y.1 :: evtD "end" y.1 :: allEv (nmsOf ys) := by simp [allEv, nmsOf]
theorem levents_P {i c : Nat} (h : fns[i]? = some ⟨2, 6, [2], gLawEvents c⟩) (hc : LCanComeP (evF S R n fns k) c) : LEventsP (evF S R n fns (k + 1)) i := by
  intro jm st hl hf
  refine eq_of_wp (f_wp h rfl ?_)
  generalize evF S R n fns k = F at hc
  simp [gLawEvents]
  refine forT_wp (enc := pairS) (fun ys ρ => ∃ (ds : List D) (s3 s4 : Sl), ρ = [.val (jmD jm), .val (stD st), .own (.lst (ds.map .fr)), s3, s4, .unb] ∧ ds ++ allEv (nmsOf ys) = allEv (nmsOf jm) ∧ ds.length + 2 * ys.length ≤ 200000) ?_ ?_ _ _ ?_
  rotate_left 2
  · exact ⟨[], .unb, .unb, by simp, by simp, by simp; omega⟩
  · rintro ρ ⟨ds, s3, s4, rfl, hd, hl2⟩
    simp [allEv, nmsOf] at hd
    simp at hl2
    simp
    refine ⟨by omega, ?_⟩
    refine go_filI (lcc (nmsOf jm) st) (fun x => x) ds [] _ ?_ ?_
    · intro x hx
      have hx2 : isEvt (nmsOf jm) x = true := allEv_evt (by rw [show allEv (nmsOf jm) = ds by simp [allEv, nmsOf, hd]]; exact hx)
      have hp : x.isPr = false := by
        cases x with
        | pr xs => simp [isEvt] at hx2
        | _ => rfl
      refine ⟨_, by simp [hp]; rfl, ?_⟩
      simp [hc x jm st hx2 hl hf]
      exact ⟨hid rfl, hid rfl, fun _ => ⟨hid rfl, hid rfl⟩⟩
    · simp
      refine hid ⟨by simp [allEv, nmsOf, hd], by simp⟩
  · rintro y ys ρ ⟨ds, s3, s4, rfl, hd, hl2⟩
    simp at hl2
    refine ⟨_, by simp [pairS]; rfl, ?_⟩
    simp
    exact ⟨by omega, hid ⟨ds ++ [evtD "begin" y.1, evtD "end" y.1], _, _, by simp [evtD]; exact ⟨rfl, rfl⟩, by rw [← hd, allEv_cons]; simp, by simp; omega⟩⟩
/-- _law_is_row: _law_jobs_here, _law_value, _law_event, _law_standing -/
def gLawIsRow (iLawIsEvent iLawFirst iLawCanCome iLawBehind : Nat) : Sts :=
  (.cons (.ifs (.or (.not (.ex (.isi (.var 1) (.inr "tuple")))) (.or (.ex (.cmp .Gt (.bi .len (.cons false (.var 1) .nil)) (.cst (.int 24)))) (.not (.ex (.bi .all (.cons false (.comp (.call iLawIsEvent (.cons true (.var 0) (.cons true (.var 2) .nil))) (.nm 2) (.seq (.var 1)) .tt [2]) .nil)))))) (.cons (.ret (.cst (.bl false)))
  .nil) .nil)
  (.cons (.asg 3 (.call iLawFirst (.cons true (.var 0) .nil)))
  (.cons (.for_ (.nm 2) (.seq (.var 1)) (.cons (.ifs (.not (.ex (.call iLawCanCome (.cons true (.var 0) (.cons true (.var 3) (.cons true (.var 2) .nil)))))) (.cons (.ret (.cst (.bl false)))
  .nil) .nil)
  (.cons (.asg 3 (.call iLawBehind (.cons true (.var 0) (.cons true (.var 3) (.cons true (.var 2) .nil)))))
  .nil)))
  (.cons (.ret (.cst (.bl true)))
  .nil))))
def LIsRowP (F : Nat → Env → OutF) (i : Nat) : Prop := ∀ (v : D) (jm : List (Str × Str)), v.fine = true → jm.length ≤ 8000 → (F i [.val (jmD jm), .val v]) = .ret (.fr (.bl (isRowB (nmsOf jm) v))) [.val (jmD jm), .val v]
theorem lisRow_P {i e f c b : Nat} (h : fns[i]? = some ⟨2, 4, [], gLawIsRow e f c b⟩) (he : LIsEventP (evF S R n fns k) e) (hf : LFirstP (evF S R n fns k) f) (hc : LCanComeP (evF S R n fns k) c) (hb : LBehindP (evF S R n fns k) b) : LIsRowP (evF S R n fns (k + 1)) i := by
  intro v jm hv hjl
  refine eq_of_wp (f_wp h rfl ?_)
  generalize evF S R n fns k = F at he hf hc hb
  cases v with
  | tup xs =>
    obtain ⟨hxl, hxf⟩ := fine_tup.mp hv
    simp [gLawIsRow, isi_tup hv, isTupB]
    by_cases hm : 24 < xs.length
    · have : (24 : Int) < (xs.length : Int) := by omega
      simp [this]; exact hid ⟨by simp [isRowB, show ¬ xs.length ≤ 24 by omega], by simp⟩
    · have : ¬ (24 : Int) < (xs.length : Int) := by omega
      simp [this]
      refine ⟨by omega, ?_⟩
      refine go_mapI (fun x => .bl (isEvt (nmsOf jm) x)) xs [] _ ?_ ?_
      · intro x hx
        have hxx := hxf x hx
        exact ⟨_, by simp [not_pr hxx]; rfl, by simp [he x jm hxx hjl]; exact ⟨hid rfl, hid rfl⟩, by exact hid rfl⟩
      simp [allB_map, hf jm hjl]
      by_cases hall2 : ∀ x ∈ xs, isEvt (nmsOf jm) x = true
      rotate_left
      · rw [if_neg hall2]
        refine hid ⟨?_, by simp⟩
        cases hw : walk (nmsOf jm) (st0 (nmsOf jm).length) xs with
        | none => simp only [nms_len] at hw; simp [isRowB, hw]
        | some ss => exact absurd (walk_all (by simp [st0]) hw) hall2
      · rw [if_pos hall2]
        refine for_wp (fun ys ρ => ∃ (cur : St2) (s2 : Sl) (m : Nat), ρ = [.val (jmD jm), .val (.tup xs), s2, .val (stD cur)] ∧ StIn (nmsOf jm) cur m ∧ m + ys.length ≤ 24 ∧ (∀ y ∈ ys, y ∈ xs) ∧ (walk (nmsOf jm) (st0 (nmsOf jm).length) xs).isSome = (walk (nmsOf jm) cur ys).isSome) ?_ ?_ _ _ ?_
        rotate_left 2
        · exact ⟨st0 (nmsOf jm).length, .unb, 0, by simp, st0_in _, by omega, fun _ h => h, rfl⟩
        · rintro ρ ⟨cur, s2, m, rfl, hin, -, -, hw⟩
          exact hid ⟨by simp [walk] at hw; simp [isRowB, hw]; omega, by simp⟩
        · rintro y ys ρ ⟨cur, s2, m, rfl, hin, hml, hys, hw⟩
          have hy := hys y (by simp)
          have hye := hall2 y hy
          have hcl : cur.length = jm.length := by rw [hin.len]; simp
          simp only [List.length_cons] at hml
          refine ⟨_, by simp [not_pr (hxf y hy)]; rfl, ?_⟩
          simp [hc y jm cur hye hcl (by omega), lcc_cc hin (by omega) hye]
          cases ec : cc (nmsOf jm) cur y with
          | false =>
            simp
            exact hid ⟨by simp [walk, ec] at hw; simp [isRowB, hw], by simp⟩
          | true =>
            simp [hb y jm cur hye hcl (by omega)]
            exact hid ⟨bh (nmsOf jm) cur y, _, m + 1, rfl, by simpa using bh_in hin ec, by omega, fun z hz => hys z (by simp [hz]), by rw [hw]; simp [walk, ec]⟩
  | _ => simp [gLawIsRow, isi_tup hv, isTupB]; exact hid (by simp [isRowB])
end
end Eg
set_option Elab.async false
set_option linter.all false
set_option maxRecDepth 8000
set_option maxHeartbeats 4000000
/-! the laws' own rows: drawn rows, their standings -/
namespace Eg
open PySem
theorem walk_snoc {js : List Str} {x : D} : ∀ {xs : List D} {st : St2} {ss : List St2}, walk js st xs = some ss → cc js (xs.foldl (bh js) st) x = true → walk js st (xs ++ [x]) = some (ss ++ [bh js (xs.foldl (bh js) st) x])
  | [], st, ss, h, hc => by
    simp only [walk, Option.some.injEq] at h
    subst h
    simp only [List.foldl_nil] at hc
    simp [walk, hc]
  | y :: ys, st, ss, h, hc => by
    simp only [walk] at h
    split at h
    · rename_i h1
      cases e : walk js (bh js st y) ys with
      | none => rw [e] at h; cases h
      | some s2 =>
        rw [e] at h
        simp only [Option.map_some, Option.some.injEq] at h
        subst h
        have := walk_snoc e (by simpa using hc)
        simp [walk, h1, this]
    · cases h
section
variable {S : Stat} {R : D → Option Str} {n : Nat} {fns : List Fn} {k : Nat}
/-- _law_standings: _law_jobs_here, _law_row_here, _law_found, _law_standing, _law_event -/
def gLawStandings (iLawFirst iLawBehind : Nat) : Sts :=
  (.cons (.par [2, 3] (.cons false (.lst .nil) (.cons false (.call iLawFirst (.cons true (.var 0) .nil)) .nil)))
  (.cons (.for_ (.nm 4) (.seq (.var 1)) (.cons (.asg 3 (.call iLawBehind (.cons true (.var 0) (.cons true (.var 3) (.cons true (.var 4) .nil)))))
  (.cons (.app 2 (.var 3))
  .nil)))
  (.cons (.ret (.bi .tuple (.cons false (.var 2) .nil)))
  .nil)))
def LStandingsP (F : Nat → Env → OutF) (i : Nat) : Prop := ∀ (xs : List D) (jm : List (Str × Str)) (ss : List St2), (∀ x ∈ xs, x.isPr = false) → jm.length ≤ 8000 → xs.length ≤ 8000 → walk (nmsOf jm) (st0 (nmsOf jm).length) xs = some ss → F i [.val (jmD jm), .val (.tup xs)] = .ret (.fr (.tup (ss.map stD))) [.val (jmD jm), .val (.tup xs)]
theorem lstandings_P {i f b : Nat} (h : fns[i]? = some ⟨2, 5, [2], gLawStandings f b⟩) (hf : LFirstP (evF S R n fns k) f) (hb : LBehindP (evF S R n fns k) b) : LStandingsP (evF S R n fns (k + 1)) i := by
  intro xs jm ss hpr hjl hxl hw
  have hall := walk_all (by simp [st0]) hw
  refine eq_of_wp (f_wp h rfl ?_)
  generalize evF S R n fns k = F at hf hb
  simp [gLawStandings, hf jm hjl]
  refine for_wp (fun ys ρ => ∃ (ds : List D) (done : List St2) (cur : St2) (s4 : Sl), ρ = [.val (jmD jm), .val (.tup xs), .own (.lst (ds.map .fr)), .val (stD cur), s4] ∧ ds = done.map stD ∧ (∃ rest, walk (nmsOf jm) cur ys = some rest ∧ ss = done ++ rest) ∧ cur.length = jm.length ∧ ds.length + ys.length = xs.length ∧ (∀ y ∈ ys, y ∈ xs)) ?_ ?_ _ _ ?_
  rotate_left 2
  · exact ⟨[], [], st0 jm.length, .unb, by simp, rfl, ⟨ss, by simpa using hw, rfl⟩, by simp [st0], by simp, fun _ h => h⟩
  · rintro ρ ⟨ds, done, cur, s4, rfl, hds, ⟨rest, hr, rfl⟩, -, -, -⟩
    simp only [walk, Option.some.injEq] at hr
    subst hr
    simp
    exact hid ⟨by simp [hds], by simp⟩
  · rintro y ys ρ ⟨ds, done, cur, s4, rfl, hds, ⟨rest, hr, rfl⟩, hcl, hlen, hys⟩
    have hy := hys y (by simp)
    simp only [List.length_cons] at hlen
    refine ⟨_, by simp [hpr y hy]; rfl, ?_⟩
    simp [hb y jm cur (hall y hy) hcl (by omega)]
    simp only [walk] at hr
    split at hr
    · cases e : walk (nmsOf jm) (bh (nmsOf jm) cur y) ys with
      | none => rw [e] at hr; cases hr
      | some s2 =>
        rw [e] at hr
        simp only [Option.map_some, Option.some.injEq] at hr
        subst hr
        exact ⟨by omega, hid ⟨ds ++ [stD (bh (nmsOf jm) cur y)], done ++ [bh (nmsOf jm) cur y], _, _, by simp; rfl, by simp [hds], ⟨s2, e, by simp⟩, by rw [bh_len]; exact hcl, by simp; omega, fun z hz => hys z (by simp [hz])⟩⟩
    · cases hr
/-- a drawn row -/
structure RowOk (jm : List (Str × Str)) (xs : List D) : Prop where
  ev : ∀ x ∈ xs, x ∈ allEv (nmsOf jm)
  walk : ∃ ss, walk (nmsOf jm) (st0 (nmsOf jm).length) xs = some ss
theorem evs_ne {jm : List (Str × Str)} {st : St2} {m : Int} (h : StIn (nmsOf jm) st m) (hm : m < 40) (hj : 0 < jm.length) : (allEv (nmsOf jm)).filter (lcc (nmsOf jm) st) ≠ [] := by
  cases jm with
  | nil => simp at hj
  | cons p r =>
    intro e
    have hmem : evtD "begin" p.1 ∈ allEv (nmsOf (p :: r)) := by rw [allEv_cons]; simp
    have := List.filter_eq_nil_iff.mp e _ hmem
    rw [lcc_cc h hm (allEv_evt hmem)] at this
    have hl : 0 < st.length := by rw [h.len]; simp
    simp [evtD, cc, ccAt, nmsOf, strIx, List.getElem?_eq_getElem hl] at this
theorem allEv_len (jm : List (Str × Str)) : (allEv (nmsOf jm)).length = 2 * jm.length := by
  induction jm with
  | nil => rfl
  | cons p r ih => rw [allEv_cons]; simp [ih]; omega
theorem evtD_pr {jm : List (Str × Str)} {x : D} (h : x ∈ allEv (nmsOf jm)) : x.isPr = false := by
  simp only [allEv, List.mem_flatMap, List.mem_cons, List.not_mem_nil, or_false] at h
  obtain ⟨m, hm, rfl | rfl⟩ := h <;> rfl
/-- _law_long_row: _law_pot_here, _law_jobs_here, _law_many, _law_row_here, _law_standing, _law_lap -/
def gLawLongRow (iLawFirst iLawOf iLawEvents iLawBehind : Nat) : Sts :=
  (.cons (.par [3, 4] (.cons false (.lst .nil) (.cons false (.call iLawFirst (.cons true (.var 1) .nil)) .nil)))
  (.cons (.for_ (.nm 5) (.rng1 (.var 2)) (.cons (.app 3 (.call iLawOf (.cons false (.var 0) (.cons true (.call iLawEvents (.cons true (.var 1) (.cons true (.var 4) .nil))) .nil))))
  (.cons (.asg 4 (.call iLawBehind (.cons true (.var 1) (.cons true (.var 4) (.cons true (.ix (.var 3) (.neg (.cst (.int 1)))) .nil)))))
  .nil)))
  (.cons (.ret (.bi .tuple (.cons false (.var 3) .nil)))
  .nil)))
def LongRowW (F : Nat → Env → OutF) (i : Nat) : Prop := ∀ (N m : Nat) (p : T) (jm : List (Str × Str)), PotT (N + m) p → m ≤ 30 → 0 < jm.length → jm.length ≤ 1000 → (F i [.own p, .val (jmD jm), .val (.int (m : Int))]).wp (fun r fin => ∃ (xs : List D) (p' : T), r = .fr (.tup xs) ∧ fin = [.own p', .val (jmD jm), .val (.int (m : Int))] ∧ RowOk jm xs ∧ xs.length = m ∧ PotT N p') noX
/-- _law_row: _law_pot_here, _law_jobs_here, _law_most, _law_row_here, _law_standing, _law_lap -/
def gLawRow (iLawFirst iLawTake iLawOf iLawEvents iLawBehind : Nat) : Sts :=
  (.cons (.par [3, 4] (.cons false (.lst .nil) (.cons false (.call iLawFirst (.cons true (.var 1) .nil)) .nil)))
  (.cons (.for_ (.nm 5) (.rng1 (.call iLawTake (.cons false (.var 0) (.cons true (.bin .Add (.var 2) (.cst (.int 1))) .nil)))) (.cons (.app 3 (.call iLawOf (.cons false (.var 0) (.cons true (.call iLawEvents (.cons true (.var 1) (.cons true (.var 4) .nil))) .nil))))
  (.cons (.asg 4 (.call iLawBehind (.cons true (.var 1) (.cons true (.var 4) (.cons true (.ix (.var 3) (.neg (.cst (.int 1)))) .nil)))))
  .nil)))
  (.cons (.ret (.bi .tuple (.cons false (.var 3) .nil)))
  .nil)))
def RowW (F : Nat → Env → OutF) (i : Nat) : Prop := ∀ (N m : Nat) (p : T) (jm : List (Str × Str)), PotT (N + m + 1) p → m ≤ 29 → 0 < jm.length → jm.length ≤ 1000 → (F i [.own p, .val (jmD jm), .val (.int (m : Int))]).wp (fun r fin => ∃ (xs : List D) (p' : T), r = .fr (.tup xs) ∧ fin = [.own p', .val (jmD jm), .val (.int (m : Int))] ∧ RowOk jm xs ∧ xs.length ≤ m ∧ PotT N p') noX
theorem longRow_W {i f o e b : Nat} (h : fns[i]? = some ⟨3, 6, [3], gLawLongRow f o e b⟩) (hf : LFirstP (evF S R n fns k) f) (ho : OfW (evF S R n fns k) o) (he : LEventsP (evF S R n fns k) e) (hb : LBehindP (evF S R n fns k) b) : LongRowW (evF S R n fns (k + 1)) i := by
  intro N m p jm hp hm hj0 hjl
  refine f_wp h rfl ?_
  generalize evF S R n fns k = F at hf ho he hb
  simp [gLawLongRow, hf jm (by omega), okRange_nat (m := m) (by omega), rangeD_nat]
  refine forT_wp (fun (ys : List Nat) ρ => ∃ (q : T) (xs : List D) (cur : St2) (s5 : Sl), ρ = [.own q, .val (jmD jm), .val (.int (m : Int)), .own (.lst (xs.map .fr)), .val (stD cur), s5] ∧ RowOk jm xs ∧ cur = xs.foldl (bh (nmsOf jm)) (st0 (nmsOf jm).length) ∧ StIn (nmsOf jm) cur xs.length ∧ xs.length + ys.length = m ∧ PotT (N + ys.length) q) ?_ ?_ _ _ ?_
  rotate_left 2
  · exact ⟨p, [], st0 (nmsOf jm).length, .unb, by simp, ⟨by simp, [], rfl⟩, rfl, st0_in _, by simp, by simpa using hp⟩
  · rintro ρ ⟨q, xs, cur, s5, rfl, hr, hc, hin, hl, hq⟩
    simp
    exact hid ⟨xs, q, rfl, by simp, hr, by simpa using hl, by simpa using hq⟩
  · rintro y ys ρ ⟨q, xs, cur, s5, rfl, hr, hc, hin, hl, hq⟩
    have hcl : cur.length = jm.length := by rw [hin.len]; simp
    simp only [List.length_cons] at hl
    refine ⟨_, by simp; rfl, ?_⟩
    simp [he jm cur hcl (by omega)]
    have hle : ((allEv (nmsOf jm)).filter (lcc (nmsOf jm) cur)).length < 2 ^ 62 := by
      have := List.length_filter_le (lcc (nmsOf jm) cur) (allEv (nmsOf jm))
      rw [allEv_len] at this
      omega
    refine (ho (N + ys.length) q _ hq (evs_ne hin (by omega) hj0) hle).use ?_
    rintro _ _ ⟨x, q2, rfl, rfl, hx, hq2⟩
    have hxm := (List.mem_filter.mp hx).1
    have hxe := allEv_evt hxm
    have hxc : cc (nmsOf jm) cur x = true := by
      rw [← lcc_cc hin (by omega) hxe]; exact (List.mem_filter.mp hx).2
    simp [hb x jm cur hxe hcl (by omega)]
    obtain ⟨ss, hw⟩ := hr.walk
    refine ⟨by omega, hid ⟨q2, xs ++ [x], bh (nmsOf jm) cur x, _, by simp; rfl, ⟨?_, _, walk_snoc hw (by rw [← hc]; exact hxc)⟩, by simp [hc], by simpa using bh_in hin hxc, by simp; omega, hq2⟩⟩
    intro z hz
    rcases List.mem_append.mp hz with hz | hz
    · exact hr.ev z hz
    · simp at hz; subst hz; exact hxm
theorem row_W {i f t o e b : Nat} (h : fns[i]? = some ⟨3, 6, [3], gLawRow f t o e b⟩) (ht : TakeW (evF S R n fns k) t) (hf : LFirstP (evF S R n fns k) f) (ho : OfW (evF S R n fns k) o) (he : LEventsP (evF S R n fns k) e) (hb : LBehindP (evF S R n fns k) b) : RowW (evF S R n fns (k + 1)) i := by
  intro N m p jm hp hm hj0 hjl
  refine f_wp h rfl ?_
  generalize evF S R n fns k = F at hf ho he hb ht
  simp [gLawRow, hf jm (by omega)]
  have e1 : ((m : Int) + 1) = ((m + 1 : Nat) : Int) := by omega
  rw [e1]
  refine (ht (N + m) p ((m + 1 : Nat) : Int) hp (by omega) (by have : (2 : Int) ^ 30 < 2 ^ 1000 := by decide +kernel
                                                               omega)).use ?_
  rintro _ _ ⟨d, q0, rfl, rfl, d0, d1, hq0⟩
  obtain ⟨l, rfl⟩ := Int.eq_ofNat_of_zero_le d0
  have hlm : l ≤ m := by omega
  simp [okRange_nat (m := l) (by omega), rangeD_nat]
  refine forT_wp (fun (ys : List Nat) ρ => ∃ (q : T) (xs : List D) (cur : St2) (s5 : Sl), ρ = [.own q, .val (jmD jm), .val (.int (m : Int)), .own (.lst (xs.map .fr)), .val (stD cur), s5] ∧ RowOk jm xs ∧ cur = xs.foldl (bh (nmsOf jm)) (st0 (nmsOf jm).length) ∧ StIn (nmsOf jm) cur xs.length ∧ xs.length + ys.length = l ∧ PotT (N + ys.length) q) ?_ ?_ _ _ ?_
  rotate_left 2
  · exact ⟨q0, [], st0 (nmsOf jm).length, .unb, by simp, ⟨by simp, [], rfl⟩, rfl, st0_in _, by simp, by simpa using hq0.mono (by omega)⟩
  · rintro ρ ⟨q, xs, cur, s5, rfl, hr, hc, hin, hl, hq⟩
    simp
    exact hid ⟨xs, q, rfl, by simp, hr, by simp at hl; omega, by simpa using hq⟩
  · rintro y ys ρ ⟨q, xs, cur, s5, rfl, hr, hc, hin, hl, hq⟩
    have hcl : cur.length = jm.length := by rw [hin.len]; simp
    simp only [List.length_cons] at hl
    refine ⟨_, by simp; rfl, ?_⟩
    simp [he jm cur hcl (by omega)]
    have hle : ((allEv (nmsOf jm)).filter (lcc (nmsOf jm) cur)).length < 2 ^ 62 := by
      have := List.length_filter_le (lcc (nmsOf jm) cur) (allEv (nmsOf jm))
      rw [allEv_len] at this
      omega
    refine (ho (N + ys.length) q _ hq (evs_ne hin (by omega) hj0) hle).use ?_
    rintro _ _ ⟨x, q2, rfl, rfl, hx, hq2⟩
    have hxm := (List.mem_filter.mp hx).1
    have hxe := allEv_evt hxm
    have hxc : cc (nmsOf jm) cur x = true := by
      rw [← lcc_cc hin (by omega) hxe]; exact (List.mem_filter.mp hx).2
    simp [hb x jm cur hxe hcl (by omega)]
    obtain ⟨ss, hw⟩ := hr.walk
    refine ⟨by omega, hid ⟨q2, xs ++ [x], bh (nmsOf jm) cur x, _, by simp; rfl, ⟨?_, _, walk_snoc hw (by rw [← hc]; exact hxc)⟩, by simp [hc], by simpa using bh_in hin hxc, by simp; omega, hq2⟩⟩
    intro z hz
    rcases List.mem_append.mp hz with hz | hz
    · exact hr.ev z hz
    · simp at hz; subst hz; exact hxm
end
end Eg
set_option Elab.async false
set_option linter.all false
set_option maxRecDepth 100000
set_option maxHeartbeats 2000000
/-! plain laws of texts: a text's parts between a sign -/
namespace Eg
open PySem
theorem cut_uniq {c : Nat} : ∀ {w v : List Nat} {x y : List Nat}, c ∉ w → c ∉ v → w ++ c :: x = v ++ c :: y → w = v ∧ x = y
  | [], [], _, _, _, _, h => by simpa using h
  | [], b :: v, _, _, _, hv, h => by
    simp only [List.nil_append, List.cons_append, List.cons.injEq] at h
    exact absurd (by rw [h.1]; exact List.mem_cons_self) hv
  | a :: w, [], _, _, hw, _, h => by
    simp only [List.nil_append, List.cons_append, List.cons.injEq] at h
    exact absurd (by rw [h.1]; exact List.mem_cons_self) hw
  | a :: w, b :: v, _, _, hw, hv, h => by
    simp only [List.cons_append, List.cons.injEq] at h
    obtain ⟨h1, h2⟩ := cut_uniq (fun z => hw (List.mem_cons_of_mem _ z)) (fun z => hv (List.mem_cons_of_mem _ z)) h.2
    exact ⟨by rw [h.1, h1], h2⟩
theorem str_eq {a b : Str} (h : a.cps.toList = b.cps.toList) : a = b := by
  cases a; cases b
  exact congrArg Str.mk (Array.toList_inj.mp h)
theorem app_cps (a b : Str) : (a ++ b).cps.toList = a.cps.toList ++ b.cps.toList := by
  show (a.cps ++ b.cps).toList = _
  simp
theorem join_uniq {c : Nat} : ∀ {ws vs : List Str}, ws ≠ [] → vs ≠ [] → (∀ w ∈ ws, c ∉ w.cps.toList) → (∀ v ∈ vs, c ∉ v.cps.toList) → Str.join ⟨#[c]⟩ ws = Str.join ⟨#[c]⟩ vs → ws = vs
  | [], _, h, _, _, _, _ => absurd rfl h
  | _, [], _, h, _, _, _ => absurd rfl h
  | [w], [v], _, _, _, _, h => by
    have : w = v := h
    rw [this]
  | [w], v :: v2 :: vs, _, _, hw, _, h => by
    have e : w = v ++ ⟨#[c]⟩ ++ Str.join ⟨#[c]⟩ (v2 :: vs) := h
    exact absurd (by rw [e, app_cps, app_cps]; simp) (hw w List.mem_cons_self)
  | w :: w2 :: ws, [v], _, _, _, hv, h => by
    have e : v = w ++ ⟨#[c]⟩ ++ Str.join ⟨#[c]⟩ (w2 :: ws) := h.symm
    exact absurd (by rw [e, app_cps, app_cps]; simp) (hv v List.mem_cons_self)
  | w :: w2 :: ws, v :: v2 :: vs, _, _, hw, hv, h => by
    have e : w ++ ⟨#[c]⟩ ++ Str.join ⟨#[c]⟩ (w2 :: ws) = v ++ ⟨#[c]⟩ ++ Str.join ⟨#[c]⟩ (v2 :: vs) := h
    have e2 := congrArg (fun s : Str => s.cps.toList) e
    simp only [app_cps, List.append_assoc] at e2
    obtain ⟨h1, h2⟩ := cut_uniq (hw w List.mem_cons_self) (hv v List.mem_cons_self) e2
    have := join_uniq (ws := w2 :: ws) (vs := v2 :: vs) (by simp) (by simp) (fun x hx => hw x (List.mem_cons_of_mem _ hx)) (fun x hx => hv x (List.mem_cons_of_mem _ hx)) (str_eq h2)
    rw [str_eq h1, this]
theorem split_ne (x : Str) (c : Nat) : Txt.split x ⟨#[c]⟩ ≠ [] := by
  unfold Txt.split
  split
  · simp
  · split
    · simp
    · rw [StrLaws.partsBetween_eq]
      have := StrLaws.partsFrom_ne x (Str.length ⟨#[c]⟩) 0 (Builtin.Str.occurrences x ⟨#[c]⟩ 0 x.length (x.length + 1))
      obtain ⟨p, q, e⟩ := this
      rw [e]
      simp
/-- a text that is joined of parts without the sign falls into these parts -/
theorem split_join {c : Nat} {ws : List Str} (h0 : ws ≠ []) (h : ∀ w ∈ ws, c ∉ w.cps.toList) : Txt.split (Str.join ⟨#[c]⟩ ws) ⟨#[c]⟩ = ws :=
  join_uniq (split_ne _ c) h0 (StrLaws.split_free _ c) h (StrLaws.join_split _ _)
end Eg
set_option Elab.async false
set_option linter.all false
set_option maxRecDepth 8000
set_option maxHeartbeats 4000000
/-! words.py, books.py: names, lines of jobs -/
namespace Eg
open PySem
def letters : Str := "abcdefghijklmnopqrstuvwxyz"
/-- a name -/
def nameB (s : Str) : Bool := decide (0 < s.length) && (decide (s.length ≤ 8) && s.cps.toList.all fun c => decide (c ∈ letters.cps.toList))
def noCh (c : Nat) (s : Str) : Prop := c ∉ s.cps.toList
theorem pool_name : ∀ x ∈ pool21, nameB x = true := by
  have : pool21.all nameB = true := by decide +kernel
  exact List.all_eq_true.mp this
theorem name_noCh {s : Str} {c : Nat} (h : nameB s = true) (hc : c ∉ letters.cps.toList) : noCh c s := by
  simp only [nameB, Bool.and_eq_true, List.all_eq_true, decide_eq_true_eq] at h
  exact fun z => hc (h.2.2 c z)
theorem name_len {s : Str} (h : nameB s = true) : s.length ≤ 8 := by
  simp only [nameB, Bool.and_eq_true, decide_eq_true_eq] at h; exact h.2.1
section
variable {S : Stat} {R : D → Option Str} {n : Nat} {fns : List Fn} {k : Nat}
@[simp] theorem lenD_str {s : Str} : lenD (.str s) = if s.length ≤ 16777216 then some s.length else none := by simp [lenD]
@[simp] theorem in_dic {s : Str} {ks : List L2.Key} {vs : List D} : inD (.str s) (.dic ks vs) = some (hasKey (.inr s) ks) := rfl
@[simp] theorem lenD_1 {c : Nat} : (Str.mk #[c]).length = 1 := rfl
theorem in_ch {c : Nat} {z : Str} : inD (.str ⟨#[c]⟩) (.str z) = some (decide (c ∈ z.cps.toList)) := by simp [inD]
/-- is_name: word, sign -/
def gIsName : Sts :=
  (.cons (.ret (.and (.chain .Lt .LtE (.cst (.int 0)) (.bi .len (.cons false (.var 0) .nil)) (.cst (.int 8))) (.and (.cst (.bl true)) (.bi .all (.cons false (.comp (.cmp .In (.var 1) (.cst (.str "abcdefghijklmnopqrstuvwxyz"))) (.nm 1) (.seq (.var 0)) .tt [1]) .nil)))))
  .nil)
def IsNameP (F : Nat → Env → OutF) (i : Nat) : Prop := ∀ (s : Str), s.length ≤ 8000 → F i [.val (.str s)] = .ret (.fr (.bl (nameB s))) [.val (.str s)]
theorem isName_P {i : Nat} (h : fns[i]? = some ⟨1, 2, [], gIsName⟩) : IsNameP (evF S R n fns (k + 1)) i := by
  intro s hs
  refine eq_of_wp (f_wp h rfl ?_)
  generalize evF S R n fns k = F
  simp [gIsName, show s.length ≤ 16777216 by omega]
  have hl : s.cps.toList.length = s.length := by simp [Str.length]
  split
  · rename_i h0
    split
    · rename_i h8
      refine ⟨by simp [strD, hl]; omega, ?_⟩
      refine go_map (enc := fun c => D.str ⟨#[c]⟩) (fun c => .bl (decide (c ∈ letters.cps.toList))) s.cps.toList [] _ ?_ ?_
      · intro x hx
        exact ⟨_, by simp; rfl, by simp [in_ch]; exact ⟨hid (by simp [letters]), hid rfl⟩, by exact hid rfl⟩
      · rw [show s.cps.toList.map (fun c => D.bl (decide (c ∈ letters.cps.toList))) = s.cps.toList.map (fun c => D.bl ((fun c => decide (c ∈ letters.cps.toList)) c)) from rfl]
        simp [allB_map]
        exact hid ⟨by simp [nameB, h0, show s.length ≤ 8 by omega], by simp⟩
    · rename_i h8
      exact hid ⟨by simp [nameB, show ¬ s.length ≤ 8 by omega]; omega, by simp⟩
  · rename_i h0
    exact hid ⟨by simp [nameB, h0], by simp⟩
/-- are_unlike: some, number, one -/
def gAreUnlike : Sts :=
  (.cons (.ret (.bi .all (.cons false (.comp (.cmp .NotIn (.var 2) (.sl (.var 0) .none (.var 1))) (.tp [(.nm 1), (.nm 2)]) (.enum (.var 0)) .tt [1, 2]) .nil)))
  .nil)
theorem unlike_all {ns : List Str} : (ns.zipIdx.all fun q => decide (q.1 ∉ ns.take q.2)) = decide ns.Nodup := by
  rw [Bool.eq_iff_iff, List.all_eq_true, decide_eq_true_eq]
  constructor
  · intro h
    refine List.pairwise_iff_getElem.mpr fun i j hi hj hij e => ?_
    have := h (ns[j], j) (List.mem_zipIdx_iff_getElem?.mpr (List.getElem?_eq_getElem hj))
    simp only [decide_eq_true_eq] at this
    exact this (List.mem_take_iff_getElem.mpr ⟨i, by omega, e⟩)
  · intro h q hq
    have hq := List.mem_zipIdx_iff_getElem?.mp hq
    obtain ⟨hj, e0⟩ := List.getElem?_eq_some_iff.mp hq
    simp only [decide_eq_true_eq]
    intro z
    obtain ⟨i, hi, e⟩ := List.mem_take_iff_getElem.mp z
    exact List.pairwise_iff_getElem.mp h i q.2 (by omega) hj (by omega) (e.trans e0.symm)
def enumE (q : Str × Nat) : D := .pr [.int (q.2 : Nat), .str q.1]
theorem enumD_L (ns : List Str) : enumD (strL ns) = ns.zipIdx.map enumE := by
  unfold enumD strL
  rw [List.zipIdx_map, List.map_map]
  rfl
def AreUnlikeP (F : Nat → Env → OutF) (i : Nat) : Prop := ∀ (ns : List Str), ns.length ≤ 8000 → F i [.val (.tup (strL ns))] = .ret (.fr (.bl (decide ns.Nodup))) [.val (.tup (strL ns))]
theorem areUnlike_P {i : Nat} (h : fns[i]? = some ⟨1, 3, [], gAreUnlike⟩) : AreUnlikeP (evF S R n fns (k + 1)) i := by
  intro ns hl
  refine eq_of_wp (f_wp h rfl ?_)
  generalize evF S R n fns k = F
  simp [gAreUnlike, enumD_L]
  refine ⟨by omega, ?_⟩
  refine go_map (enc := enumE) (fun q => .bl (decide (q.1 ∉ ns.take q.2))) ns.zipIdx [] _ ?_ ?_
  · rintro ⟨x, j⟩ hx
    have hx := List.mem_zipIdx_iff_getElem?.mp hx
    obtain ⟨hj, e⟩ := List.getElem?_eq_some_iff.mp hx
    have hj : j < ns.length := hj
    have s1 := slTo (xs := strL ns) (j := j) (by rw [strL_len]; omega)
    have e2 : (strL ns).take j = strL (ns.take j) := by simp [strL]
    exact ⟨_, by simp [enumE]; rfl, by simp [s1, e2]; exact ⟨hid (by simp), hid rfl⟩, by exact hid rfl⟩
  · rw [show ns.zipIdx.map (fun q => D.bl (decide (q.1 ∉ ns.take q.2))) = ns.zipIdx.map (fun q => D.bl ((fun q : Str × Nat => decide (q.1 ∉ ns.take q.2)) q)) from rfl]
    simp only [List.nil_append, toD_lst, bi_all, allB_map, unlike_all, shal_fr]
    simp
    exact hid (by simp)
end
end Eg
set_option Elab.async false
set_option linter.all false
set_option maxRecDepth 8000
set_option maxHeartbeats 4000000
/-! books.py: reading texts of jobs and manners -/
namespace Eg
open PySem
theorem strL_cons {a : Str} {ns : List Str} : strL (a :: ns) = .str a :: strL ns := rfl
theorem app_len (a b : Str) : (a ++ b).length = a.length + b.length := by
  have := congrArg List.length (app_cps a b)
  simpa [Str.length] using this
theorem line_ok {n : Nat} (h : n ≤ 200000) : n ≤ sizeLine := Nat.le_trans h (by decide +kernel)
abbrev cSp : Nat := 32
abbrev cLf : Nat := 10
theorem join_eq (c : Nat) (ws : List Str) : Txt.join ⟨#[c]⟩ ws = Str.join ⟨#[c]⟩ ws := StrLaws.glued_eq_join _ _
theorem sp_eq : (" " : Str) = ⟨#[cSp]⟩ := by decide +kernel
theorem lf_eq : ("\n" : Str) = ⟨#[cLf]⟩ := by decide +kernel
def strM (ss : List Str) : List T := ss.map fun s => .fr (.str s)
theorem strM_eq (ss : List Str) : ss.map (fun s => T.fr (.str s)) = (strL ss).map .fr := by simp [strL]
/-- manners told, by name -/
def manD (ms : List (Str × Str)) : D := .dic (ms.map fun p => .inr p.1) (ms.map fun p => .str p.2)
def manners : List Str := ["clean", "spent", "free"]
theorem hasKey_map (x : Str) (ms : List (Str × Str)) : hasKey (.inr x) (ms.map fun p => .inr p.1) = decide (x ∈ ms.map (·.1)) := by
  induction ms with
  | nil => rfl
  | cons p ms ih =>
    simp only [hasKey, List.map_cons, List.any_cons] at ih ⊢
    rw [ih]
    by_cases h : p.1 = x
    · subst h; simp
    · have h' : ¬ x = p.1 := fun z => h z.symm
      simp [h, h']
theorem putT_new {k : L2.Key} {t : T} : ∀ {ks : List L2.Key} {ts : List T}, k ∉ ks → ks.length = ts.length → putT ks ts k t = (ks ++ [k], ts ++ [t])
  | [], [], _, _ => rfl
  | k' :: ks, t' :: ts, h, hl => by
    have h1 : ¬ k' = k := fun z => h (by simp [z])
    have h2 := putT_new (k := k) (t := t) (ks := ks) (ts := ts) (fun z => h (List.mem_cons_of_mem _ z)) (by simpa using hl)
    simp [putT, h1, h2]
  | [], _ :: _, _, hl => by simp at hl
  | _ :: _, [], _, hl => by simp at hl
def manT (ms : List (Str × Str)) : T := .dic (ms.map fun p => .inr p.1) ((ms.map fun p => D.str p.2).map .fr)
@[simp] theorem manT_toD {ms : List (Str × Str)} : (manT ms).toD = manD ms := toD_dic
theorem putD_man {ms : List (Str × Str)} {x m : Str} (h : x ∉ ms.map (·.1)) : putD (manD ms) (.str x) (.str m) = some (manT (ms ++ [(x, m)])) := by
  have e := putT_new (k := (.inr x : L2.Key)) (t := .fr (.str m)) (ks := ms.map fun p => .inr p.1) (ts := (ms.map fun p => D.str p.2).map .fr) (by simpa using h) (by simp)
  simp only [putD, manD, keyOfD, e, manT]
  simp
theorem dicOk_man {ms : List (Str × Str)} (h : (ms.map (·.1)).Nodup) (hl : ms.length ≤ 12) : dicOk (manD ms) = true := by
  simp only [dicOk, manD, List.length_map, decide_true, Bool.true_and, Bool.and_eq_true, decide_eq_true_eq]
  refine ⟨?_, hl⟩
  rw [List.Nodup, List.pairwise_map] at h ⊢
  exact h.imp fun h z => h (by simpa using z)
section
variable {S : Stat} {R : D → Option Str} {n : Nat} {fns : List Fn} {k : Nat}
/-- jobs_in: line, words, names, name -/
def gJobsIn (iIsName iAreUnlike : Nat) : Sts :=
  (.cons (.asg 1 (.m1 .split (.var 0) (.cst (.str " "))))
  (.cons (.asg 2 (.bi .tuple (.cons false (.sl (.var 1) (.cst (.int 1)) .none) .nil)))
  (.cons (.ifs (.or (.ex (.cmp .NotEq (.ix (.var 1) (.cst (.int 0))) (.cst (.str "jobs")))) (.or (.not (.ex (.chain .Lt .LtE (.cst (.int 0)) (.bi .len (.cons false (.var 2) .nil)) (.cst (.int 4))))) (.not (.ex (.bi .all (.cons false (.comp (.call iIsName (.cons true (.var 3) .nil)) (.nm 3) (.seq (.var 2)) .tt [3]) .nil)))))) (.cons (.ret (.cst .non))
  .nil) .nil)
  (.cons (.ret (.ite (.ex (.call iAreUnlike (.cons true (.var 2) .nil))) (.var 2) (.cst .non)))
  .nil))))
def JobsInP (F : Nat → Env → OutF) (i : Nat) : Prop := ∀ (line : Str) (ns : List Str), line.length ≤ 8000 → Txt.split line " " = ("jobs" : Str) :: ns → 0 < ns.length → ns.length ≤ 4 → (∀ x ∈ ns, nameB x = true) → ns.Nodup → F i [.val (.str line)] = .ret (.fr (.tup (strL ns))) [.val (.str line)]
theorem jobsIn_P {i m u : Nat} (h : fns[i]? = some ⟨1, 4, [], gJobsIn m u⟩) (hm : IsNameP (evF S R n fns k) m) (hu : AreUnlikeP (evF S R n fns k) u) : JobsInP (evF S R n fns (k + 1)) i := by
  intro line ns hl hs h0 h4 hn hd
  refine eq_of_wp (f_wp h rfl ?_)
  generalize evF S R n fns k = F at hm hu
  have hz : line.length + 2 ≤ sizeLine := line_ok (by omega)
  have hb : (" " : Str).length ≠ 0 := by decide +kernel
  simp [gJobsIn, hz, hb, hs, strL_cons]
  have e3 : slD (.lst (.str "jobs" :: strL ns)) (some 1) none = some (.lst ((strL ns).map .fr)) := slL (xs := .str "jobs" :: strL ns) (j := 1) (by simp)
  simp [e3, h0, show (ns.length : Int) ≤ 4 by omega]
  refine ⟨by omega, ?_⟩
  refine go_map (enc := D.str) (fun x => .bl (nameB x)) ns [] _ ?_ ?_
  · intro x hx
    have := name_len (hn x hx)
    exact ⟨_, by simp; rfl, by simp [hm x (by omega)]; exact ⟨hid rfl, hid rfl⟩, by exact hid rfl⟩
  · have : ∀ x ∈ ns, nameB x = true := hn
    have e4 : ns.all nameB = true := List.all_eq_true.mpr hn
    simp [allB_map, e4, hu ns (by omega), hd]
    exact hid (by simp)
/-- taken: words, jobs, manners, facts, fact -/
def gTaken (iFactIn iFirstFull : Nat) : Sts :=
  (.cons (.ifs (.ex (.cmp .In (.ix (.var 0) (.cst (.int 0))) (.cst (.tup [(.str "clean"), (.str "spent"), (.str "free")])))) (.cons (.ifs (.or (.ex (.cmp .NotEq (.var 3) (.tup .nil))) (.or (.ex (.cmp .NotEq (.bi .len (.cons false (.var 0) .nil)) (.cst (.int 2)))) (.or (.ex (.cmp .NotIn (.ix (.var 0) (.cst (.int 1))) (.var 1))) (.ex (.cmp .In (.ix (.var 0) (.cst (.int 1))) (.var 2)))))) (.cons (.ret (.cst .non))
  .nil) .nil)
  (.cons (.ret (.tup (.cons false (.dicS (.var 2) (.ix (.var 0) (.cst (.int 1))) (.ix (.var 0) (.cst (.int 0)))) (.cons false (.var 3) .nil))))
  .nil)) .nil)
  (.cons (.asg 4 (.call iFactIn (.cons true (.var 0) (.cons true (.bi .len (.cons false (.var 1) .nil)) .nil))))
  (.cons (.ifs (.or (.ex (.cmp .Is (.var 4) (.cst .non))) (.or (.ex (.cmp .In (.var 4) (.var 3))) (.ex (.cmp .IsNot (.call iFirstFull (.cons true (.tup (.cons true (.var 3) (.cons false (.var 4) .nil))) .nil)) (.cst .non))))) (.cons (.ret (.cst .non))
  .nil) .nil)
  (.cons (.ret (.tup (.cons false (.var 2) (.cons false (.tup (.cons true (.var 3) (.cons false (.var 4) .nil))) .nil))))
  .nil))))
/-- a line of a manner -/
def TakenManP (F : Nat → Env → OutF) (i : Nat) : Prop := ∀ (m x : Str) (js : List Str) (ms : List (Str × Str)), m ∈ manners → x ∈ js → x ∉ ms.map (·.1) → (ms.map (·.1)).Nodup → ms.length ≤ 12 →
  F i [.val (.lst (strL [m, x])), .val (.tup (strL js)), .val (manD ms), .val (.tup [])] = .ret (.fr (.tup [manD (ms ++ [(x, m)]), .tup []])) [.val (.lst (strL [m, x])), .val (.tup (strL js)), .val (manD ms), .val (.tup [])]
theorem takenMan_P {i f u : Nat} (h : fns[i]? = some ⟨4, 5, [], gTaken f u⟩) : TakenManP (evF S R n fns (k + 1)) i := by
  intro m x js ms hm hx hn hd hl
  refine eq_of_wp (f_wp h rfl ?_)
  generalize evF S R n fns k = F
  have hk : hasKey (.inr x) (ms.map fun p => .inr p.1) = false := by rw [hasKey_map]; simpa using hn
  have e0 : (strL [m, x]) = [.str m, .str x] := rfl
  have hm3 : m = "clean" ∨ m = "spent" ∨ m = "free" := by simpa [manners] using hm
  have hin : inD (.str x) (manD ms) = some false := by simp [manD, hk]
  have ht : eqD (.tup []) (.tup []) = some true := by decide +kernel
  simp [gTaken, e0, ht, hm3, hin, hx, dicOk_man hd hl, putD_man hn]
  exact hid ⟨by simp, by simp [e0]⟩
/-- the line of a manner -/
def mline (p : Str × Str) : Str := p.2 ++ " " ++ p.1
theorem mline_join (p : Str × Str) : mline p = Str.join ⟨#[cSp]⟩ [p.2, p.1] := by
  unfold mline
  rw [sp_eq]
  rfl
theorem mline_split {p : Str × Str} (h1 : noCh cSp p.1) (h2 : noCh cSp p.2) : Txt.split (mline p) " " = [p.2, p.1] := by
  rw [mline_join, sp_eq]
  exact split_join (by simp) (by intro w hw; simp at hw; rcases hw with rfl | rfl <;> assumption)
theorem man_noCh {m : Str} (h : m ∈ manners) : noCh cSp m ∧ noCh cLf m ∧ m.length ≤ 8 := by
  have : m = "clean" ∨ m = "spent" ∨ m = "free" := by simpa [manners] using h
  rcases this with rfl | rfl | rfl <;> exact ⟨by unfold noCh; decide +kernel, by unfold noCh; decide +kernel, by decide +kernel⟩
/-- names told with manners that are not plain -/
structure MansOk (js : List Str) (ms : List (Str × Str)) : Prop where
  man : ∀ p ∈ ms, p.2 ∈ manners
  mem : ∀ p ∈ ms, p.1 ∈ js
  nodup : (ms.map (·.1)).Nodup
  len : ms.length ≤ 4
structure NamesOk (js : List Str) : Prop where
  pos : 0 < js.length
  len : js.length ≤ 4
  name : ∀ x ∈ js, nameB x = true
  nodup : js.Nodup
theorem name_sp {s : Str} (h : nameB s = true) : noCh cSp s := name_noCh h (by decide +kernel)
theorem name_lf {s : Str} (h : nameB s = true) : noCh cLf s := name_noCh h (by decide +kernel)
/-- read: text, lines, jobs, manners, facts, number, line, found -/
def gRead (iJobsIn iTaken cBadBook : Nat) : Sts :=
  (.cons (.ifs (.not (.ex (.isi (.var 0) (.inr "str")))) (.cons (.raise cBadBook (.cst (.int 0)))
  .nil) .nil)
  (.cons (.asg 1 (.m1 .split (.var 0) (.cst (.str "\n"))))
  (.cons (.par [2, 3, 4] (.cons false (.call iJobsIn (.cons true (.ix (.var 1) (.cst (.int 0))) .nil)) (.cons false (.dic [] .nil) (.cons false (.tup .nil) .nil))))
  (.cons (.ifs (.ex (.cmp .Is (.var 2) (.cst .non))) (.cons (.raise cBadBook (.cst (.int 1)))
  .nil) .nil)
  (.cons (.for_ (.tp [(.nm 5), (.nm 6)]) (.enum (.var 1)) (.cons (.ifs (.ex (.cmp .Gt (.var 5) (.cst (.int 0)))) (.cons (.asg 7 (.call iTaken (.cons true (.m1 .split (.var 6) (.cst (.str " "))) (.cons true (.var 2) (.cons true (.var 3) (.cons true (.var 4) .nil))))))
  (.cons (.ifs (.ex (.cmp .Is (.var 7) (.cst .non))) (.cons (.raise cBadBook (.bin .Add (.var 5) (.cst (.int 1))))
  .nil) .nil)
  (.cons (.asgT (.tp [(.nm 3), (.nm 4)]) (.var 7))
  .nil))) .nil)
  .nil))
  (.cons (.ret (.tup (.cons false (.var 2) (.cons false (.var 3) (.cons false (.var 4) .nil)))))
  .nil))))))
def ReadP (F : Nat → Env → OutF) (i : Nat) : Prop := ∀ (text jl : Str) (js : List Str) (ms : List (Str × Str)), text.length ≤ 8000 → jl.length ≤ 8000 → Txt.split text "\n" = jl :: ms.map mline → Txt.split jl " " = ("jobs" : Str) :: js → NamesOk js → MansOk js ms →
  F i [.val (.str text)] = .ret (.fr (.tup [.tup (strL js), manD ms, .tup []])) [.val (.str text)]
theorem read_P {i j t c : Nat} (h : fns[i]? = some ⟨1, 8, [], gRead j t c⟩) (hj : JobsInP (evF S R n fns k) j) (ht : TakenManP (evF S R n fns k) t) : ReadP (evF S R n fns (k + 1)) i := by
  intro text jl js ms hl hjl hs hsj hn hm
  refine eq_of_wp (f_wp h rfl ?_)
  generalize evF S R n fns k = F at hj ht
  have hz : text.length + 2 ≤ sizeLine := line_ok (by omega)
  have hb : ("\n" : Str).length ≠ 0 := by decide +kernel
  have hb2 : (" " : Str).length ≠ 0 := by decide +kernel
  have hst : isiD S (.str text) (.inr "str") = some true := by simp [isiD, isBlt, tgNs, isTy, D.ty]
  generalize hls : jl :: ms.map mline = lines at hs
  have h0 : atD (strL lines) 0 = some (.str jl) := by rw [← hls]; simp [strL]
  have hll : lines.length ≤ 5 := by rw [← hls]; have := hm.len; simp; omega
  simp [gRead, hz, hb, hs, hst, h0, hj jl js hjl hsj hn.pos hn.len hn.name hn.nodup]
  rw [enumD_L]
  have hm0 : D.dic [] [] = manD [] := rfl
  rw [hm0]
  refine forT_wp (enc := enumE) (fun qs ρ => ∃ (done rest : List (Str × Str)) (s5 s6 s7 : Sl), ρ = [.val (.str text), .val (.lst (strL lines)), .val (.tup (strL js)), .val (manD done), .val (.tup []), s5, s6, s7] ∧ ((done = [] ∧ rest = ms ∧ qs = lines.zipIdx) ∨ (∃ a, 0 < a ∧ ms = done ++ rest ∧ qs = (rest.map mline).zipIdx a))) ?_ ?_ _ _ ?_
  rotate_left 2
  · exact ⟨[], ms, .unb, .unb, .unb, rfl, .inl ⟨rfl, rfl, rfl⟩⟩
  · rintro ρ ⟨done, rest, s5, s6, s7, rfl, h | ⟨a, h1, h2, h3⟩⟩
    · have := h.2.2
      rw [← hls] at this
      simp at this
    · have : rest = [] := by
        cases rest with
        | nil => rfl
        | cons p r => simp at h3
      subst this
      simp at h2
      subst h2
      simp
      exact hid (by simp)
  · rintro ⟨x, b⟩ qs ρ ⟨done, rest, s5, s6, s7, rfl, h | ⟨a, h1, h2, h3⟩⟩
    · obtain ⟨rfl, rfl, h3⟩ := h
      rw [← hls] at h3
      simp only [List.zipIdx_cons, List.cons.injEq, Prod.mk.injEq] at h3
      obtain ⟨⟨rfl, rfl⟩, rfl⟩ := h3
      refine ⟨_, by simp [enumE]; rfl, ?_⟩
      simp
      exact hid ⟨[], rest, _, _, _, rfl, .inr ⟨1, by omega, rfl, rfl⟩⟩
    · cases rest with
      | nil => simp at h3
      | cons p rest =>
        simp only [List.map_cons, List.zipIdx_cons, List.cons.injEq, Prod.mk.injEq] at h3
        obtain ⟨⟨rfl, rfl⟩, rfl⟩ := h3
        have hpm : p ∈ ms := by rw [h2]; simp
        have hp1 := hm.mem p hpm
        have hp2 := hm.man p hpm
        have hnn := hm.nodup
        rw [h2] at hnn
        simp only [List.map_append, List.map_cons] at hnn
        have hnd := List.nodup_append.mp hnn
        have hsp := mline_split (p := p) (name_sp (hn.name _ hp1)) (man_noCh hp2).1
        have hml : (mline p).length + 2 ≤ sizeLine := line_ok (by
          have h1 := name_len (hn.name _ hp1)
          have h2 := (man_noCh hp2).2.2
          have : (mline p).length = p.2.length + 1 + p.1.length := by unfold mline; rw [app_len, app_len]; rfl
          omega)
        refine ⟨_, by simp [enumE]; rfl, ?_⟩
        have htk := ht p.2 p.1 js done hp2 hp1 (by intro z; exact hnd.2.2 _ z _ (by simp) rfl) hnd.1 (by have := hm.len; rw [h2] at this; simp at this; omega)
        simp [hml, hb2, hsp, htk, h1]
        exact ⟨rfl, hid ⟨done ++ [p], rest, _, _, _, rfl, .inr ⟨b + 1, by omega, by rw [h2]; simp, rfl⟩⟩⟩
end
end Eg
set_option Elab.async false
set_option linter.all false
set_option maxRecDepth 8000
set_option maxHeartbeats 4000000
/-! books made of texts; the laws' texts of lores without facts -/
namespace Eg
open PySem
section
variable {S : Stat} {R : D → Option Str} {F : Nat → Env → OutF} {n : Nat} {io kp : List Nat} {ρ : Env} {X : D → Env → Prop} {N : Env → Prop} {Rt : T → Env → Prop} {L : Bool → Env → Prop}
@[simp] theorem s_asgF {i m : Nat} {e : Ex} : (evS S R F n io kp (.asgF i m e) ρ).wp N Rt X L = (evE S R F e ρ).wp (fun t ρ => match ρ[i]? with
    | some (.own (.ins c ts)) => TryO (putF S c m t.toD ts) fun ts => N (ρ.set i (.own (.ins c ts)))
    | _ => False) X := by
  simp only [evS, so_of, wp_freeze]
  congr 1
  funext t ρ
  generalize ρ[i]? = s
  cases s with
  | none => rfl
  | some s =>
    cases s with
    | own t' =>
      cases t' with
      | ins c ts =>
        dsimp only
        cases putF S c m t.toD ts <;> rfl
      | _ => rfl
    | _ => rfl
@[simp] theorem s_asgTF {i : Nat} {ms : List Nat} {e : Ex} : (evS S R F n io kp (.asgTF i ms e) ρ).wp N Rt X L = (evE S R F e ρ).wp (fun t ρ => match t.toD, ρ[i]? with
    | .tup ds, some (.own (.ins c ts)) => TryO (putFs S c ms ds ts) fun ts => N (ρ.set i (.own (.ins c ts)))
    | _, _ => False) X := by
  simp only [evS, so_of, wp_freeze]
  congr 1
  funext t ρ
  generalize ρ[i]? = s
  generalize t.toD = d
  cases d with
  | tup ds =>
    cases s with
    | none => rfl
    | some s =>
      cases s with
      | own t' =>
        cases t' with
        | ins c ts =>
          dsimp only
          cases putFs S c ms ds ts <;> rfl
        | _ => rfl
      | _ => rfl
  | _ => rfl
@[simp] theorem putFs_nil {c : Nat} {ts : List T} : putFs S c [] [] ts = some ts := rfl
@[simp] theorem putFs_cons {c m : Nat} {ms : List Nat} {d : D} {ds : List D} {ts : List T} : putFs S c (m :: ms) (d :: ds) ts = (putF S c m d ts).bind fun ts => putFs S c ms ds ts := rfl
end
@[simp] theorem varOf_m1 {b : Bi} {a e : Ex} : varOf (.m1 b a e) = none := rfl
@[simp] theorem varOf_m2 {b : Bi} {a e f : Ex} : varOf (.m2 b a e f) = none := rfl
@[simp] theorem varOf_told {c : Nat} {e : Ex} : varOf (.told c e) = none := rfl
@[simp] theorem varOf_dicS {a b c : Ex} : varOf (.dicS a b c) = none := rfl
@[simp] theorem varOf_fstr {xs : Exs} : varOf (.fstr xs) = none := rfl
theorem sum_le {ws : List Str} (h : ∀ x ∈ ws, x.length ≤ 8) : (ws.map (·.length)).sum ≤ 8 * ws.length := by
  induction ws with
  | nil => simp
  | cons w ws ih =>
    have h1 := h w (by simp)
    have h2 := ih fun x hx => h x (by simp [hx])
    simp only [List.map_cons, List.sum_cons, List.length_cons]
    omega
@[simp] theorem go_nil {tg : Tg} {own : List Nat} {cond : Env → Out Bool} {elt : Env → Out D} {ρ : Env} {acc : List D} {Q : List D → Env → Prop} {X : D → Env → Prop} : CompW own (compGo own tg cond elt [] ρ acc) Q X = Q acc (wipeE ρ own) := rfl
/-- where a Book's fields stand -/
structure BookFld (S : Stat) (c nText nJobs nManners nFacts : Nat) : Prop where
  jobs : S.fld c nJobs = some 0
  manners : S.fld c nManners = some 1
  facts : S.fld c nFacts = some 2
  text : S.fld c nText = some 3
/-- a Book as data -/
def bookD (c : Nat) (js : List Str) (ms : List (Str × Str)) (facts : List D) (text : Str) : D := .ins c [.tup (strL js), manD ms, .tup facts, .str text]
def bookT (c : Nat) (js : List Str) (ms : List (Str × Str)) (facts : List D) (text : Str) : T := .ins c [.fr (.tup (strL js)), .fr (manD ms), .fr (.tup facts), .fr (.str text)]
@[simp] theorem bookT_toD {c : Nat} {js : List Str} {ms : List (Str × Str)} {facts : List D} {text : Str} : (bookT c js ms facts text).toD = bookD c js ms facts text := by simp [bookT, bookD]
section
variable {S : Stat} {R : D → Option Str} {n : Nat} {fns : List Fn} {k : Nat}
/-- Book___init__: self, text -/
def gBookInit (iRead n_text n_jobs n_manners n_facts : Nat) : Sts :=
  (.cons (.asgTF 0 [n_jobs, n_manners, n_facts] (.call iRead (.cons true (.var 1) .nil)))
  (.cons (.asgF 0 n_text (.var 1))
  .nil))
/-- a text of a book without facts -/
structure TextOk (text : Str) (js : List Str) (ms : List (Str × Str)) : Prop where
  len : text.length ≤ 8000
  lines : ∃ jl : Str, jl.length ≤ 8000 ∧ Txt.split text "\n" = jl :: ms.map mline ∧ Txt.split jl " " = ("jobs" : Str) :: js
  names : NamesOk js
  mans : MansOk js ms
def BookInitP (F : Nat → Env → OutF) (c i : Nat) : Prop := ∀ (text : Str) (js : List Str) (ms : List (Str × Str)), TextOk text js ms →
  F i [.own (.ins c []), .val (.str text)] = .ret (.fr .non) [.own (bookT c js ms [] text), .val (.str text)]
theorem bookInit_P {i r c nT nJ nM nF : Nat} (h : fns[i]? = some ⟨2, 2, [], gBookInit r nT nJ nM nF⟩) (hS : BookFld S c nT nJ nM nF) (hr : ReadP (evF S R n fns k) r) : BookInitP (evF S R n fns (k + 1)) c i := by
  intro text js ms ht
  refine eq_of_wp (f_wp h rfl ?_)
  generalize evF S R n fns k = F at hr
  obtain ⟨jl, h1, h2, h3⟩ := ht.lines
  simp [gBookInit, hr text jl js ms ht.len h1 h2 h3 ht.names ht.mans, putF, hS.jobs, hS.manners, hS.facts, hS.text]
  exact hid ⟨rfl, by simp [bookT]⟩
/-- a lore of a law -/
def loreD (jm : List (Str × Str)) (facts : List D) : D := .dic [.inr "jobs", .inr "facts"] [jmD jm, .lst facts]
def mansOf (jm : List (Str × Str)) : List (Str × Str) := jm.filter fun p => decide (p.2 ≠ ("plain" : Str))
def linesOf (jm : List (Str × Str)) : List Str := Str.join " " ("jobs" :: nmsOf jm) :: (mansOf jm).map mline
/-- _law_lines: _law_lore, _law_found, _law_name, _law_manner, _law_fact -/
def gLawLines (iLawFactLine : Nat) : Sts :=
  (.cons (.asg 1 (.lst (.cons false (.bin .Add (.cst (.str "jobs ")) (.m1 .join (.cst (.str " ")) (.comp (.var 2) (.tp [(.nm 2), (.nm 3)]) (.seq (.ix (.var 0) (.cst (.str "jobs")))) .tt [2, 3]))) .nil)))
  (.cons (.ext 1 (.comp (.bin .Add (.bin .Add (.var 3) (.cst (.str " "))) (.var 2)) (.tp [(.nm 2), (.nm 3)]) (.seq (.ix (.var 0) (.cst (.str "jobs")))) (.ex (.cmp .NotEq (.var 3) (.cst (.str "plain")))) [2, 3]))
  (.cons (.ret (.bin .Add (.var 1) (.comp (.call iLawFactLine (.cons true (.var 4) .nil)) (.nm 4) (.seq (.ix (.var 0) (.cst (.str "facts")))) .tt [4])))
  .nil)))
def LLinesP (F : Nat → Env → OutF) (i : Nat) : Prop := ∀ (jm : List (Str × Str)), 0 < jm.length → jm.length ≤ 4 → (∀ x ∈ nmsOf jm, x.length ≤ 8) → (∀ x ∈ jm.map (·.2), x.length ≤ 8) → F i [.val (loreD jm [])] = .ret (.lst ((strL (linesOf jm)).map .fr)) [.val (loreD jm [])]
theorem llines_P {i f : Nat} (h : fns[i]? = some ⟨1, 5, [1], gLawLines f⟩) : LLinesP (evF S R n fns (k + 1)) i := by
  intro jm h0 h4 hn hm
  refine eq_of_wp (f_wp h rfl ?_)
  generalize evF S R n fns k = F
  have k1 : ixD (loreD jm []) (.str "jobs") = some (jmD jm) := by simp [loreD, ixD, keyOfD, keyAt]
  have k2 : ixD (loreD jm []) (.str "facts") = some (.lst []) := by simp [loreD, ixD, keyOfD, keyAt, show ¬ (("jobs" : Str) = "facts") by decide]
  have hj1 : joinOk (" " : Str) (nmsOf jm) = true := by
    have h1 := sum_le hn
    simp only [nms_len] at h1
    simp only [joinOk, decide_eq_true_eq, nms_len]
    have : (" " : Str).length = 1 := by decide +kernel
    rw [this]
    omega
  have hjl : (Txt.join (" " : Str) (nmsOf jm)).length ≤ 1000 := by
    have h1 := sum_le hn
    simp only [nms_len] at h1
    have e := size_glued (" " : Str) (nmsOf jm)
    have e2 : (Txt.join (" " : Str) (nmsOf jm)).length = _ := e
    have : (" " : Str).length = 1 := by decide +kernel
    rw [e2, this, nms_len]
    omega
  have hl5 : ("jobs " : Str).length = 5 := by decide +kernel
  have hl1 : (" " : Str).length = 1 := by decide +kernel
  simp [gLawLines, k1, k2]
  refine ⟨by omega, ?_⟩
  refine go_map (enc := pairS) (fun p => .str p.1) jm [] _ ?_ ?_
  · intro x hx
    exact ⟨_, by simp [pairS]; rfl, by simp; exact ⟨hid rfl, hid rfl⟩, by exact hid rfl⟩
  rw [nms_L]
  simp [hj1, k1, k2, hl5]
  refine ⟨by omega, by omega, ?_⟩
  refine go_fil (enc := pairS) (fun p => decide (p.2 ≠ ("plain" : Str))) (fun p => .str (mline p)) jm [] _ ?_ ?_
  · intro x hx
    have b1 : x.1.length ≤ 8 := hn x.1 (List.mem_map.mpr ⟨x, hx, rfl⟩)
    have b2 : x.2.length ≤ 8 := hm x.2 (List.mem_map.mpr ⟨x, hx, rfl⟩)
    refine ⟨_, by simp [pairS]; rfl, ?_⟩
    simp [app_len, hl1]
    refine ⟨hid (by simp), hid rfl, fun _ => ⟨by omega, by omega, hid rfl, hid rfl⟩⟩
  have e5 : ([] ++ (jm.filter fun p => decide (p.2 ≠ ("plain" : Str))).map fun p => D.str (mline p)) = strL ((mansOf jm).map mline) := by simp [strL, mansOf]
  rw [e5]
  have hml : (mansOf jm).length ≤ jm.length := List.length_filter_le _ _
  simp [k2]
  refine ⟨by omega, by omega, hid ⟨?_, by simp⟩⟩
  have e6 : ("jobs " : Str) ++ Txt.join " " (nmsOf jm) = Str.join " " ("jobs" :: nmsOf jm) := by
    cases e : nmsOf jm with
    | nil => have := congrArg List.length e; simp at this; subst this; simp at h0
    | cons x r =>
      rw [sp_eq, join_eq]
      have e7 : ("jobs " : Str) = "jobs" ++ ⟨#[cSp]⟩ := by decide +kernel
      rw [e7]
      rfl
  simp [linesOf, e6, strL]
theorem strJ (c : Nat) (w v : Str) (ws : List Str) : Str.join ⟨#[c]⟩ (w :: v :: ws) = w ++ ⟨#[c]⟩ ++ Str.join ⟨#[c]⟩ (v :: ws) := rfl
/-- drawn jobs are told as a book's text -/
def textOf (jm : List (Str × Str)) : Str := Str.join "\n" (linesOf jm)
theorem join_noCh {c d : Nat} (hcd : d ≠ c) : ∀ {ws : List Str}, (∀ w ∈ ws, noCh d w) → noCh d (Str.join ⟨#[c]⟩ ws)
  | [], _ => by simp [noCh, Str.join, Str.empty]
  | [w], h => h w (by simp)
  | w :: v :: ws, h => by
    have ih := join_noCh hcd (ws := v :: ws) fun x hx => h x (List.mem_cons_of_mem _ hx)
    have h1 := h w (by simp)
    unfold noCh at ih h1 ⊢
    rw [strJ, app_cps, app_cps]
    simp only [List.mem_append, not_or]
    exact ⟨⟨h1, by simpa using hcd⟩, ih⟩
def manners4 : List Str := ["plain", "clean", "spent", "free"]
/-- jobs as the laws draw them -/
structure JmOk (jm : List (Str × Str)) : Prop where
  names : NamesOk (nmsOf jm)
  man : ∀ x ∈ jm.map (·.2), x ∈ manners4
theorem mansOf_ok {jm : List (Str × Str)} (h : JmOk jm) : MansOk (nmsOf jm) (mansOf jm) where
  man := fun p hp => by
    have h1 := List.mem_filter.mp hp
    have h2 := h.man p.2 (List.mem_map.mpr ⟨p, h1.1, rfl⟩)
    have h3 : ¬ p.2 = ("plain" : Str) := by simpa using h1.2
    simp only [manners4, List.mem_cons, h3, false_or] at h2
    simpa [manners] using h2
  mem := fun p hp => List.mem_map.mpr ⟨p, (List.mem_filter.mp hp).1, rfl⟩
  nodup := by
    have := h.names.nodup
    unfold nmsOf at this
    unfold mansOf
    exact List.Nodup.sublist (List.Sublist.map _ List.filter_sublist) this
  len := by
    have := List.length_filter_le (fun p : Str × Str => decide (p.2 ≠ ("plain" : Str))) jm
    have h2 := h.names.len
    rw [nms_len] at h2
    unfold mansOf; omega
theorem mline_lf {p : Str × Str} (h1 : noCh cLf p.1) (h2 : noCh cLf p.2) : noCh cLf (mline p) := by
  rw [mline_join]
  exact join_noCh (by decide) (by intro w hw; simp at hw; rcases hw with rfl | rfl <;> assumption)
theorem join_len {ws : List Str} (c : Nat) : (Str.join ⟨#[c]⟩ ws).length = (ws.map (·.length)).sum + (ws.length - 1) := by
  rw [← join_eq]
  have e := size_glued ⟨#[c]⟩ ws
  have : (Str.mk #[c]).length = 1 := rfl
  rw [this, Nat.mul_one] at e
  exact e
theorem sum_leN {m : Nat} {ws : List Str} (h : ∀ x ∈ ws, x.length ≤ m) : (ws.map (·.length)).sum ≤ m * ws.length := by
  induction ws with
  | nil => simp
  | cons w ws ih =>
    have h1 := h w (by simp)
    have h2 := ih fun x hx => h x (by simp [hx])
    simp only [List.map_cons, List.sum_cons, List.length_cons, Nat.mul_add]
    omega
theorem textOf_ok {jm : List (Str × Str)} (h : JmOk jm) : TextOk (textOf jm) (nmsOf jm) (mansOf jm) := by
  have hm := mansOf_ok h
  have hnl : ∀ x ∈ ("jobs" : Str) :: nmsOf jm, x.length ≤ 8 ∧ noCh cSp x ∧ noCh cLf x := by
    intro x hx
    rcases List.mem_cons.mp hx with rfl | hx
    · exact ⟨by decide +kernel, by unfold noCh; decide +kernel, by unfold noCh; decide +kernel⟩
    · have := h.names.name x hx
      exact ⟨name_len this, name_sp this, name_lf this⟩
  have hjl : (Str.join " " (("jobs" : Str) :: nmsOf jm)).length ≤ 100 := by
    rw [sp_eq, join_len]
    have := sum_leN fun x hx => (hnl x hx).1
    have h2 := h.names.len
    simp only [List.length_cons] at this ⊢
    omega
  have hml : ∀ x ∈ (mansOf jm).map mline, x.length ≤ 100 := by
    intro x hx
    obtain ⟨p, hp, rfl⟩ := List.mem_map.mp hx
    have h1 := name_len (h.names.name _ (hm.mem p hp))
    have h2 := (man_noCh (hm.man p hp)).2.2
    have : (mline p).length = p.2.length + 1 + p.1.length := by unfold mline; rw [app_len, app_len]; rfl
    omega
  refine ⟨?_, ⟨Str.join " " (("jobs" : Str) :: nmsOf jm), by omega, ?_, ?_⟩, h.names, hm⟩
  · unfold textOf
    rw [lf_eq, join_len]
    have : ∀ x ∈ linesOf jm, x.length ≤ 100 := by
      intro x hx
      rcases List.mem_cons.mp hx with rfl | hx
      · exact hjl
      · exact hml x hx
    have h2 := sum_leN this
    have h3 : (linesOf jm).length ≤ 5 := by have := hm.len; simp [linesOf]; omega
    omega
  · unfold textOf
    rw [lf_eq]
    refine split_join (by simp [linesOf]) ?_
    intro x hx
    rcases List.mem_cons.mp hx with rfl | hx
    · rw [sp_eq]
      exact join_noCh (by decide) fun w hw => (hnl w hw).2.2
    · obtain ⟨p, hp, rfl⟩ := List.mem_map.mp hx
      exact mline_lf (name_lf (h.names.name _ (hm.mem p hp))) (man_noCh (hm.man p hp)).2.1
  · rw [sp_eq]
    exact split_join (by simp) fun w hw => (hnl w hw).2.1
/-- _law_text: _law_lore -/
def gLawText (iLawLines : Nat) : Sts :=
  (.cons (.ret (.m1 .join (.cst (.str "\n")) (.call iLawLines (.cons true (.var 0) .nil))))
  .nil)
def LTextP (F : Nat → Env → OutF) (i : Nat) : Prop := ∀ (jm : List (Str × Str)), JmOk jm → F i [.val (loreD jm [])] = .ret (.fr (.str (textOf jm))) [.val (loreD jm [])]
theorem ltext_P {i l : Nat} (h : fns[i]? = some ⟨1, 1, [], gLawText l⟩) (hl : LLinesP (evF S R n fns k) l) : LTextP (evF S R n fns (k + 1)) i := by
  intro jm hj
  refine eq_of_wp (f_wp h rfl ?_)
  generalize evF S R n fns k = F at hl
  have h1 := hj.names.pos
  have h2 := hj.names.len
  rw [nms_len] at h1 h2
  have h3 := hl jm h1 h2 (fun x hx => name_len (hj.names.name x hx)) (fun x hx => by
    have := hj.man x hx
    have h4 : ∀ x ∈ manners4, x.length ≤ 8 := by decide +kernel
    exact h4 x this)
  have h4 : joinOk ("\n" : Str) (linesOf jm) = true := by
    have h5 := (textOf_ok hj).len
    unfold textOf at h5
    rw [lf_eq, join_len] at h5
    have h3 : (linesOf jm).length ≤ 5 := by have := (mansOf_ok hj).len; simp [linesOf]; omega
    have : ("\n" : Str).length = 1 := by decide +kernel
    simp only [joinOk, decide_eq_true_eq, this]
    omega
  simp [gLawText, h3, h4]
  refine hid ⟨?_, by simp⟩
  unfold textOf
  rw [lf_eq, join_eq]
/-- _law_book: _law_lore -/
def gLawBook (iLawText cBook : Nat) : Sts :=
  (.cons (.ret (.make cBook (.cons true (.call iLawText (.cons true (.var 0) .nil)) .nil)))
  .nil)
def LBookP (F : Nat → Env → OutF) (c i : Nat) : Prop := ∀ (jm : List (Str × Str)), JmOk jm → F i [.val (loreD jm [])] = .ret (bookT c (nmsOf jm) (mansOf jm) [] (textOf jm)) [.val (loreD jm [])]
theorem lbook_P {i t c b : Nat} (h : fns[i]? = some ⟨1, 1, [], gLawBook t c⟩) (hi : S.init c = some b) (ht : LTextP (evF S R n fns k) t) (hb : BookInitP (evF S R n fns k) c b) : LBookP (evF S R n fns (k + 1)) c i := by
  intro jm hj
  refine eq_of_wp (f_wp h rfl ?_)
  generalize evF S R n fns k = F at ht hb
  simp [gLawBook, ht jm hj, hi, hb _ _ _ (textOf_ok hj)]
  exact hid ⟨rfl, by simp⟩
end
end Eg
set_option Elab.async false
set_option linter.all false
set_option maxRecDepth 8000
set_option maxHeartbeats 4000000
/-! values of any kind: what can be shown; bent values -/
namespace Eg
open PySem
def keyOk : L2.Key → Bool
  | .inl i => decide (i.natAbs.log2 < 900)
  | .inr s => asciiB s
def keyBulk : L2.Key → Nat
  | .inl _ => 0
  | .inr s => s.length
mutual
/-- plain data of short numbers and plain texts -/
def D.shape : D → Bool
  | .int i => decide (i.natAbs.log2 < 900)
  | .str s => asciiB s
  | .tup xs => D.shapes xs
  | .lst xs => D.shapes xs
  | .dic ks vs => ks.all keyOk && D.shapes vs
  | .ins _ _ => false
  | .exc _ _ => false
  | .pr _ => false
  | _ => true
def D.shapes : List D → Bool
  | [] => true
  | x :: xs => D.shape x && D.shapes xs
end
mutual
def D.bulk : D → Nat
  | .str s => s.length
  | .tup xs => D.bulks xs
  | .lst xs => D.bulks xs
  | .dic ks vs => (ks.map fun k => keyBulk k + 1).sum + D.bulks vs
  | _ => 0
def D.bulks : List D → Nat
  | [] => 0
  | x :: xs => D.bulk x + 1 + D.bulks xs
end
mutual
def D.dep : D → Nat
  | .tup xs => D.deps xs + 1
  | .lst xs => D.deps xs + 1
  | .dic _ vs => D.deps vs + 1
  | _ => 0
def D.deps : List D → Nat
  | [] => 0
  | x :: xs => max (D.dep x) (D.deps xs)
end
theorem shapes_all : ∀ {xs : List D}, D.shapes xs = true ↔ ∀ x ∈ xs, D.shape x = true
  | [] => by simp [D.shapes]
  | x :: xs => by simp [D.shapes, shapes_all (xs := xs)]
theorem bulks_app : ∀ (xs ys : List D), D.bulks (xs ++ ys) = D.bulks xs + D.bulks ys
  | [], ys => by simp [D.bulks]
  | x :: xs, ys => by simp [D.bulks, bulks_app xs ys]; omega
theorem bulks_len : ∀ (xs : List D), xs.length ≤ D.bulks xs
  | [] => by simp [D.bulks]
  | x :: xs => by have := bulks_len xs; simp [D.bulks]; omega
theorem bulks_mem : ∀ {xs : List D} {x : D}, x ∈ xs → D.bulk x + 1 ≤ D.bulks xs
  | y :: ys, x, h => by
    rcases List.mem_cons.mp h with rfl | h
    · simp [D.bulks]
    · have := bulks_mem h; simp [D.bulks]; omega
theorem deps_le {xs : List D} {d : Nat} : D.deps xs ≤ d ↔ ∀ x ∈ xs, D.dep x ≤ d := by
  induction xs with
  | nil => simp [D.deps]
  | cons x xs ih => simp [D.deps, Nat.max_le, ih]
theorem bulks_sub {xs ys : List D} (h : xs.Sublist ys) : D.bulks xs ≤ D.bulks ys := by
  induction h with
  | slnil => simp [D.bulks]
  | cons x h ih => simp [D.bulks]; omega
  | cons_cons x h ih => simp [D.bulks]; omega
theorem bulks_perm {xs ys : List D} (h : xs.Perm ys) : D.bulks xs = D.bulks ys := by
  induction h with
  | nil => rfl
  | cons x h ih => simp [D.bulks, ih]
  | swap x y l => simp [D.bulks]; omega
  | trans h1 h2 e1 e2 => exact e1.trans e2
def Shp (x : D) : Prop := x.plainO = true ∧ x.py.showable = true ∧ x.py.leavesShort 1000 = true ∧ x.py.bulk ≤ x.bulk ∧ x.py.depth ≤ x.dep
theorem shp_int {i : Int} (h : i.natAbs.log2 < 900) : Shp (.int i) := by
  refine ⟨rfl, ?_, ?_, Nat.zero_le _, Nat.zero_le _⟩
  · simp only [D.py, PyData.showable, decide_eq_true_eq]; omega
  · simp only [D.py, PyData.leavesShort, PyData.shown]
    have h1 := int_text_length_le (a := i) (k := 900) (by decide) h
    have h2 : (Str.ofString (toString i)).length = (toString i).length := ofString_length _
    exact decide_eq_true (by omega)
theorem shp_str {s : Str} (h : asciiB s = true) : Shp (.str s) := by
  refine ⟨rfl, rfl, ?_, Nat.le_refl _, Nat.zero_le _⟩
  simp only [asciiB, List.all_eq_true, decide_eq_true_eq] at h
  simp only [D.py, PyData.leavesShort, List.all_eq_true, decide_eq_true_eq]
  intro c hc
  have := h c hc
  have : (128 : Nat) ≤ 16 ^ 8 := by decide
  omega
mutual
theorem D.shp : ∀ x : D, x.shape = true → Shp x
  | .non, _ => ⟨rfl, rfl, rfl, Nat.zero_le _, Nat.zero_le _⟩
  | .bl b, _ => ⟨rfl, rfl, rfl, Nat.zero_le _, Nat.zero_le _⟩
  | .int i, h => shp_int (by simpa [D.shape] using h)
  | .str s, h => shp_str (by simpa [D.shape] using h)
  | .tup xs, h => by
    obtain ⟨h1, h2, h3, h4, h5⟩ := D.shps xs (by simpa [D.shape] using h)
    exact ⟨by simpa [D.plainO] using h1, by simpa [D.py, PyData.showable] using h2, by simpa [D.py, PyData.leavesShort] using h3, by simpa [D.py, PyData.bulk, D.bulk] using h4, by simpa [D.py, PyData.depth, D.dep] using h5⟩
  | .lst xs, h => by
    obtain ⟨h1, h2, h3, h4, h5⟩ := D.shps xs (by simpa [D.shape] using h)
    exact ⟨by simpa [D.plainO] using h1, by simpa [D.py, PyData.showable] using h2, by simpa [D.py, PyData.leavesShort] using h3, by simpa [D.py, PyData.bulk, D.bulk] using h4, by simpa [D.py, PyData.depth, D.dep] using h5⟩
  | .dic ks vs, h => by
    simp only [D.shape, Bool.and_eq_true] at h
    obtain ⟨h1, h2, h3, h4, h5⟩ := D.shpk ks vs h.1 h.2
    exact ⟨by simpa [D.plainO] using h1, by simpa [D.py, PyData.showable] using h2, by simpa [D.py, PyData.leavesShort] using h3, by simpa [D.py, PyData.bulk, D.bulk] using h4, by simpa [D.py, PyData.depth, D.dep] using h5⟩
theorem D.shps : ∀ xs : List D, D.shapes xs = true → D.plainOs xs = true ∧ PyData.showableAll (D.pys xs) = true ∧ PyData.leavesShortAll 1000 (D.pys xs) = true ∧ PyData.bulkAll (D.pys xs) ≤ D.bulks xs ∧ PyData.depthAll (D.pys xs) ≤ D.deps xs
  | [], _ => ⟨rfl, rfl, rfl, Nat.le_refl _, Nat.le_refl _⟩
  | x :: xs, h => by
    simp only [D.shapes, Bool.and_eq_true] at h
    obtain ⟨a1, a2, a3, a4, a5⟩ := D.shp x h.1
    obtain ⟨h1, h2, h3, h4, h5⟩ := D.shps xs h.2
    refine ⟨by simp [D.plainOs, a1, h1], by simp [D.pys, PyData.showableAll, a2, h2], by simp [D.pys, PyData.leavesShortAll, a3, h3], ?_, ?_⟩
    · simp only [D.pys, PyData.bulkAll, D.bulks]; omega
    · simp only [D.pys, PyData.depthAll, D.deps]; omega
theorem D.shpk : ∀ (ks : List L2.Key) (vs : List D), ks.all keyOk = true → D.shapes vs = true → D.plainOs vs = true ∧ PyData.showableKv (D.pyKv ks vs) = true ∧ PyData.leavesShortKv 1000 (D.pyKv ks vs) = true ∧ PyData.bulkKv (D.pyKv ks vs) ≤ (ks.map fun k => keyBulk k + 1).sum + D.bulks vs ∧ PyData.depthKv (D.pyKv ks vs) ≤ D.deps vs
  | [], [], _, h => ⟨rfl, rfl, rfl, Nat.zero_le _, Nat.zero_le _⟩
  | [], v :: vs, _, h => ⟨(D.shps (v :: vs) h).1, rfl, rfl, Nat.zero_le _, Nat.zero_le _⟩
  | _ :: _, [], _, _ => ⟨rfl, rfl, rfl, Nat.zero_le _, Nat.zero_le _⟩
  | k :: ks, v :: vs, hk, h => by
    simp only [D.shapes, Bool.and_eq_true] at h
    simp only [List.all_cons, Bool.and_eq_true] at hk
    obtain ⟨a1, a2, a3, a4, a5⟩ := D.shp v h.1
    obtain ⟨h1, h2, h3, h4, h5⟩ := D.shpk ks vs hk.2 h.2
    have kk : (keyPy k).showable = true ∧ (keyPy k).leavesShort 1000 = true ∧ (keyPy k).bulk ≤ keyBulk k ∧ (keyPy k).depth = 0 := by
      cases k with
      | inl i =>
        obtain ⟨-, b2, b3, -, -⟩ := shp_int (i := i) (by simpa [keyOk] using hk.1)
        exact ⟨b2, b3, Nat.zero_le _, rfl⟩
      | inr s =>
        obtain ⟨-, b2, b3, b4, -⟩ := shp_str (s := s) (by simpa [keyOk] using hk.1)
        exact ⟨b2, b3, b4, rfl⟩
    refine ⟨by simp [D.plainOs, a1, h1], by simp [D.pyKv, PyData.showableKv, a2, h2, kk.1], by simp [D.pyKv, PyData.leavesShortKv, a3, h3, kk.2.1], ?_, ?_⟩
    · simp only [D.pyKv, PyData.bulkKv, D.bulks, List.map_cons, List.sum_cons]; have := kk.2.2.1; omega
    · simp only [D.pyKv, PyData.depthKv, D.deps, kk.2.2.2]; omega
end
/-- a value of any kind, within bounds -/
structure AnyV (d m : Nat) (x : D) : Prop where
  shape : x.shape = true
  dep : x.dep ≤ d
  bulk : x.bulk ≤ m
theorem AnyV.repr {d m : Nat} {x : D} (h : AnyV d m x) (hd : d ≤ 200) (hm : m ≤ 16000) : ∃ s, reprD x = some s := by
  obtain ⟨h1, h2, h3, h4, h5⟩ := D.shp x h.shape
  have h6 := PyData.shown_le_bulk 1000 (by decide) x.py h3
  have h7 := h.dep
  have h8 := h.bulk
  have h9 : x.py.shown.length ≤ 16777216 := by
    have : (1000 + 2) * x.py.bulk ≤ 1002 * 16000 := Nat.mul_le_mul_left _ (by omega)
    omega
  exact ⟨x.py.shown, by simp only [reprD, h1, h2, h9, show x.py.depth ≤ 200 by omega, decide_true, Bool.and_self, if_true]⟩
mutual
theorem D.fine_of : ∀ x : D, x.shape = true → x.bulk ≤ 8000 → x.fine = true
  | .non, _, _ => rfl
  | .bl b, _, _ => rfl
  | .int i, h, _ => rfl
  | .str s, h, hb => by simp only [D.shape] at h; simp only [D.bulk] at hb; simp [D.fine, h, hb]
  | .tup xs, h, hb => by
    simp only [D.shape] at h; simp only [D.bulk] at hb
    have := bulks_len xs
    simp [D.fine, D.fines_of xs h hb]; omega
  | .lst xs, h, hb => by
    simp only [D.shape] at h; simp only [D.bulk] at hb
    have := bulks_len xs
    simp [D.fine, D.fines_of xs h hb]; omega
  | .dic ks vs, h, hb => by
    simp only [D.shape, Bool.and_eq_true] at h; simp only [D.bulk] at hb
    have hk : ks.length ≤ (ks.map fun k => keyBulk k + 1).sum := by
      clear h hb
      induction ks with
      | nil => simp
      | cons k ks ih => simp; omega
    simp [D.fine, D.fines_of vs h.2 (by omega)]; omega
theorem D.fines_of : ∀ xs : List D, D.shapes xs = true → D.bulks xs ≤ 8000 → D.fines xs = true
  | [], _, _ => rfl
  | x :: xs, h, hb => by
    simp only [D.shapes, Bool.and_eq_true] at h; simp only [D.bulks] at hb
    simp [D.fines, D.fine_of x h.1 (by omega), D.fines_of xs h.2 (by omega)]
end
theorem AnyV.fine {d m : Nat} {x : D} (h : AnyV d m x) (hm : m ≤ 8000) : x.fine = true := D.fine_of x h.shape (by have := h.bulk; omega)
theorem AnyV.mono {d m d' m' : Nat} {x : D} (h : AnyV d m x) (h1 : d ≤ d') (h2 : m ≤ m') : AnyV d' m' x := ⟨h.shape, by have := h.dep; omega, by have := h.bulk; omega⟩
end Eg
set_option Elab.async false
set_option linter.all false
set_option maxRecDepth 8000
set_option maxHeartbeats 4000000
set_option exponentiation.threshold 5000
/-! odd values, bent values of texts and tuples -/
namespace Eg
open PySem
mutual
/-- tuples of texts -/
def D.txt : D → Bool
  | .str s => asciiB s
  | .tup xs => D.txts xs
  | _ => false
def D.txts : List D → Bool
  | [] => true
  | x :: xs => D.txt x && D.txts xs
end
theorem txts_all : ∀ {xs : List D}, D.txts xs = true ↔ ∀ x ∈ xs, D.txt x = true
  | [] => by simp [D.txts]
  | x :: xs => by simp [D.txts, txts_all (xs := xs)]
mutual
theorem D.txt_shape : ∀ x : D, x.txt = true → x.shape = true
  | .str s, h => by simpa [D.txt, D.shape] using h
  | .tup xs, h => by simp only [D.txt] at h; simpa [D.shape] using D.txts_shape xs h
  | .non, h => by simp [D.txt] at h
  | .bl _, h => by simp [D.txt] at h
  | .int _, h => by simp [D.txt] at h
  | .lst _, h => by simp [D.txt] at h
  | .dic _ _, h => by simp [D.txt] at h
  | .ins _ _, h => by simp [D.txt] at h
  | .exc _ _, h => by simp [D.txt] at h
  | .pr _, h => by simp [D.txt] at h
theorem D.txts_shape : ∀ xs : List D, D.txts xs = true → D.shapes xs = true
  | [], _ => rfl
  | x :: xs, h => by
    simp only [D.txts, Bool.and_eq_true] at h
    simp [D.shapes, D.txt_shape x h.1, D.txts_shape xs h.2]
end
theorem upper_1 : ∀ c, c < 128 → ∃ d, Unicode.upperOf c = [d] ∧ d < 128 := by
  have : (List.range 128).all (fun c => match Unicode.upperOf c with
    | [d] => decide (d < 128)
    | _ => false) = true := by decide +kernel
  intro c hc
  have h := List.all_eq_true.mp this c (List.mem_range.mpr hc)
  split at h
  · rename_i d e; exact ⟨d, e, by simpa using h⟩
  · cases h
theorem upper_list : ∀ cs : List Nat, (∀ c ∈ cs, c < 128) → (∀ d ∈ cs.flatMap Unicode.upperOf, d < 128) ∧ (cs.flatMap Unicode.upperOf).length = cs.length
  | [], _ => by simp
  | c :: cs, h => by
    obtain ⟨d, e, hd⟩ := upper_1 c (h c (by simp))
    obtain ⟨h1, h2⟩ := upper_list cs fun x hx => h x (by simp [hx])
    rw [List.flatMap_cons, e]
    exact ⟨by intro x hx; rcases List.mem_append.mp hx with hx | hx; simp at hx; subst hx; exact hd; exact h1 x hx, by simp [h2]⟩
theorem upper_cps (s : Str) : (Txt.upper s).cps.toList = s.cps.toList.flatMap Unicode.upperOf := by
  show (placed s fun _ c => Unicode.upperOf c).toList = _
  have e : ∀ cs : List Nat, List.mapIdx (fun _ c => (Unicode.upperOf c).toArray) cs = cs.map fun c => (Unicode.upperOf c).toArray := fun cs => List.ext_getElem? (by simp [List.getElem?_mapIdx])
  simp [placed, List.flatMap_def, e]
  rfl
theorem upper_ascii {s : Str} (h : asciiB s = true) : asciiB (Txt.upper s) = true ∧ (Txt.upper s).length = s.length := by
  simp only [asciiB, List.all_eq_true, decide_eq_true_eq] at h
  obtain ⟨h1, h2⟩ := upper_list s.cps.toList h
  refine ⟨by simp only [asciiB, List.all_eq_true, decide_eq_true_eq, upper_cps]; exact h1, ?_⟩
  have e : (Txt.upper s).length = (Txt.upper s).cps.toList.length := by simp [Str.length]
  rw [e, upper_cps, h2]
  simp [Str.length]
def odds : List D := [.non, .bl true, .bl false, .int 0, .int 1, .int (-1), .int 41, .int 100000000, .str "", .str "a", .str "begin", .str "let", .tup [], .lst [], .dic [] [], .tup [.int 0], .tup [.tup []], .lst [.int 0]] ++ [.tup [.tup [.int 0, .int 0]], .tup [.tup [.str "begin", .str "a"]], .tup [.str "let", .tup [.tup [.int 0, .int 0]]], .tup [.int 1, .tup [], .tup []], .tup [.str "never"], .str "always", .tup [.str "a"]] ++ [.dic [.inr "a"] [.int 1]]
theorem odds_any : ∀ x ∈ odds, AnyV 3 30 x := by
  have : odds.all (fun x => x.shape && (decide (x.dep ≤ 3) && decide (x.bulk ≤ 30))) = true := by decide +kernel
  intro x hx
  have h := List.all_eq_true.mp this x hx
  simp only [Bool.and_eq_true, decide_eq_true_eq] at h
  exact ⟨h.1, h.2.1, h.2.2⟩
section
variable {S : Stat} {R : D → Option Str} {n : Nat} {fns : List Fn} {k : Nat}
/-- _law_odd: _law_pot_here, _law_some_here, _law_more -/
def gLawOdd (iLawOf : Nat) : Sts :=
  (.cons (.asg 1 (.lst (.cons false (.cst .non) (.cons false (.cst (.bl true)) (.cons false (.cst (.bl false)) (.cons false (.cst (.int 0)) (.cons false (.cst (.int 1)) (.cons false (.neg (.cst (.int 1))) (.cons false (.cst (.int 41)) (.cons false (.bin .Pow (.cst (.int 10)) (.cst (.int 8))) (.cons false (.cst (.str "")) (.cons false (.cst (.str "a")) (.cons false (.cst (.str "begin")) (.cons false (.cst (.str "let")) (.cons false (.tup .nil) (.cons false (.lst .nil) (.cons false (.dic [] .nil) (.cons false (.tup (.cons false (.cst (.int 0)) .nil)) (.cons false (.tup (.cons false (.tup .nil) .nil)) (.cons false (.lst (.cons false (.cst (.int 0)) .nil)) .nil))))))))))))))))))))
  (.cons (.asg 2 (.lst (.cons false (.tup (.cons false (.tup (.cons false (.cst (.int 0)) (.cons false (.cst (.int 0)) .nil))) .nil)) (.cons false (.tup (.cons false (.tup (.cons false (.cst (.str "begin")) (.cons false (.cst (.str "a")) .nil))) .nil)) (.cons false (.tup (.cons false (.cst (.str "let")) (.cons false (.tup (.cons false (.tup (.cons false (.cst (.int 0)) (.cons false (.cst (.int 0)) .nil))) .nil)) .nil))) (.cons false (.tup (.cons false (.cst (.int 1)) (.cons false (.tup .nil) (.cons false (.tup .nil) .nil)))) (.cons false (.tup (.cons false (.cst (.str "never")) .nil)) (.cons false (.cst (.str "always")) (.cons false (.tup (.cons false (.cst (.str "a")) .nil)) .nil)))))))))
  (.cons (.ret (.call iLawOf (.cons false (.var 0) (.cons true (.bin .Add (.bin .Add (.var 1) (.var 2)) (.lst (.cons false (.dic [.inr "a"] (.cons false (.cst (.int 1)) .nil)) .nil))) .nil))))
  .nil)))
def OddW (F : Nat → Env → OutF) (i : Nat) : Prop := ∀ (N : Nat) (p : T), PotT (N + 1) p → (F i [.own p]).wp (fun r fin => ∃ (v : D) (p' : T), r = .fr v ∧ fin = [.own p'] ∧ AnyV 3 30 v ∧ PotT N p') noX
theorem odd_W {i o : Nat} (h : fns[i]? = some ⟨1, 3, [], gLawOdd o⟩) (ho : OfW (evF S R n fns k) o) : OddW (evF S R n fns (k + 1)) i := by
  intro N p hp
  refine f_wp h rfl ?_
  generalize evF S R n fns k = F at ho
  have hpo : powOk 10 8 = true := by decide +kernel
  have hpw : binD .Pow (.int 10) (.int 8) = some (.fr (.int 100000000)) := by simp [binD, hpo]
  simp [gLawOdd, hpw]
  refine (ho N p odds hp (by decide) (by decide)).use ?_
  rintro _ _ ⟨d, p', rfl, rfl, hd, hp'⟩
  simp
  exact hid ⟨d, p', rfl, by simp, odds_any d hd, hp'⟩
/-- _law_bent: _law_pot_here, _law_value, _law_at, _law_some_here -/
def gLawBent (iLawTake iLawBent iLawOf iLawOdd : Nat) : Sts :=
  (.cons (.ifs (.and (.ex (.isi (.var 1) (.inr "tuple"))) (.and (.ex (.cmp .NotEq (.var 1) (.tup .nil))) (.ex (.cmp .Gt (.call iLawTake (.cons false (.var 0) (.cons true (.cst (.int 6)) .nil))) (.cst (.int 0)))))) (.cons (.asg 2 (.call iLawTake (.cons false (.var 0) (.cons true (.bi .len (.cons false (.var 1) .nil)) .nil))))
  (.cons (.ret (.bin .Add (.bin .Add (.sl (.var 1) .none (.var 2)) (.tup (.cons false (.call iLawBent (.cons false (.var 0) (.cons true (.ix (.var 1) (.var 2)) .nil))) .nil))) (.sl (.var 1) (.bin .Add (.var 2) (.cst (.int 1))) .none)))
  .nil)) .nil)
  (.cons (.ifs (.ex (.isi (.var 1) (.inr "tuple"))) (.cons (.asg 3 (.lst (.cons false (.bi .list (.cons false (.var 1) .nil)) (.cons false (.sl (.var 1) (.cst (.int 1)) .none) (.cons false (.sl (.var 1) .none (.neg (.cst (.int 1)))) (.cons false (.bin .Add (.var 1) (.sl (.var 1) (.neg (.cst (.int 1))) .none)) (.cons false (.rev (.var 1)) (.cons false (.tup .nil) (.cons false (.bin .Add (.var 1) (.tup (.cons false (.cst (.int 0)) .nil))) (.cons false (.cst .non) .nil))))))))))
  (.cons (.ret (.call iLawOf (.cons false (.var 0) (.cons true (.var 3) .nil))))
  .nil)) .nil)
  (.cons (.ifs (.ex (.isi (.var 1) (.inr "bool"))) (.cons (.ret (.call iLawOf (.cons false (.var 0) (.cons true (.lst (.cons false (.not (.var 1)) (.cons false (.bi .int (.cons false (.var 1) .nil)) (.cons false (.cst .non) .nil)))) .nil))))
  .nil) .nil)
  (.cons (.ifs (.ex (.isi (.var 1) (.inr "int"))) (.cons (.ret (.call iLawOf (.cons false (.var 0) (.cons true (.lst (.cons false (.bin .Add (.var 1) (.cst (.int 1))) (.cons false (.bin .Sub (.var 1) (.cst (.int 1))) (.cons false (.cmp .Eq (.var 1) (.cst (.int 1))) (.cons false (.bi .str (.cons false (.var 1) .nil)) (.cons false (.neg (.var 1)) (.cons false (.cst (.int 0)) (.cons false (.bin .Mult (.cst (.int 2)) (.var 1)) (.cons false (.cst .non) (.cons false (.tup (.cons false (.var 1) .nil)) .nil)))))))))) .nil))))
  .nil) .nil)
  (.cons (.ifs (.ex (.isi (.var 1) (.inr "str"))) (.cons (.ret (.call iLawOf (.cons false (.var 0) (.cons true (.lst (.cons false (.bin .Add (.var 1) (.cst (.str "x"))) (.cons false (.sl (.var 1) .none (.neg (.cst (.int 1)))) (.cons false (.bi .upper (.cons false (.var 1) .nil)) (.cons false (.bin .Add (.var 1) (.cst (.str " "))) (.cons false (.lst (.cons false (.var 1) .nil)) (.cons false (.cst (.str "a")) (.cons false (.cst (.str "end")) (.cons false (.cst (.str "")) (.cons false (.cst .non) (.cons false (.cst (.int 0)) .nil))))))))))) .nil))))
  .nil) .nil)
  (.cons (.ret (.call iLawOdd (.cons false (.var 0) .nil)))
  .nil))))))
/-- a tuple of texts bent -/
def BentW (F : Nat → Env → OutF) (i d : Nat) : Prop := ∀ (N m : Nat) (p : T) (v : D), PotT (N + (2 * d + 4)) p → v.txt = true → v.dep ≤ d → v.bulk ≤ m → m ≤ 2000 →
  (F i [.own p, .val v]).wp (fun r fin => ∃ (v' : D) (p' : T), r = .fr v' ∧ fin = [.own p', .val v] ∧ AnyV (d + 3) (3 * m + 100) v' ∧ PotT N p') noX
theorem txt_str {v : D} (h : v.txt = true) : (∃ s, v = .str s ∧ asciiB s = true) ∨ ∃ xs, v = .tup xs ∧ ∀ x ∈ xs, D.txt x = true := by
  cases v with
  | str s => exact .inl ⟨s, rfl, by simpa [D.txt] using h⟩
  | tup xs => exact .inr ⟨xs, rfl, txts_all.mp (by simpa [D.txt] using h)⟩
  | _ => simp [D.txt] at h
theorem mem_any {ds : List D} {d m : Nat} (h : ∀ x ∈ ds, AnyV d m x) {x : D} (hx : x ∈ ds) : AnyV d m x := h x hx
theorem ascii_app (a b : Str) : asciiB (a ++ b) = (asciiB a && asciiB b) := by
  simp only [asciiB, app_cps, List.all_append]
theorem cutS_ok {s : Str} {lo hi : Option Int} (h : asciiB s = true) : asciiB (L2.cutS s lo hi) = true ∧ (L2.cutS s lo hi).length ≤ s.length := by
  refine ⟨?_, L2.cutS_length _ _ _⟩
  simp only [asciiB, List.all_eq_true, decide_eq_true_eq] at h ⊢
  intro c hc
  simp only [L2.cutS] at hc
  exact h c (List.mem_of_mem_drop (List.mem_of_mem_take hc))
/-- a text bent -/
theorem bent_str {i t b o q d : Nat} (h : fns[i]? = some ⟨2, 4, [], gLawBent t b o q⟩) (ho : OfW (evF S R n fns k) o) : ∀ (N m : Nat) (p : T) (s : Str), PotT (N + (2 * d + 4)) p → asciiB s = true → s.length ≤ m → m ≤ 2000 →
  (evF S R n fns (k + 1) i [.own p, .val (.str s)]).wp (fun r fin => ∃ (v' : D) (p' : T), r = .fr v' ∧ fin = [.own p', .val (.str s)] ∧ AnyV (d + 3) (3 * m + 100) v' ∧ PotT N p') noX := by
  intro N m p s hp hs hl hm
  refine f_wp h rfl ?_
  generalize evF S R n fns k = F at ho
  obtain ⟨u1, u2⟩ := upper_ascii hs
  have i1 : isiD S (.str s) (.inr "tuple") = some false := by simp [isiD, isBlt, tgNs, isTy, D.ty]
  have i2 : isiD S (.str s) (.inr "bool") = some false := by simp [isiD, isBlt, tgNs, isTy, D.ty]
  have i3 : isiD S (.str s) (.inr "int") = some false := by simp [isiD, isBlt, tgNs, isTy, D.ty]
  have i4 : isiD S (.str s) (.inr "str") = some true := by simp [isiD, isBlt, tgNs, isTy, D.ty]
  have l1 : ("x" : Str).length = 1 := by decide +kernel
  have l2 : (" " : Str).length = 1 := by decide +kernel
  have up : biD R .upper [.str s] = some (.fr (.str (Txt.upper s))) := by simp [biD, show s.length ≤ 5592405 by omega]
  have sl : slD (.str s) none (some (-1)) = some (.fr (.str (L2.cutS s none (some (-1))))) := by simp [slD, show s.length ≤ 16777216 by omega]
  simp [gLawBent, i1, i2, i3, i4, l1, l2, up, sl]
  refine ⟨by omega, ?_⟩
  refine (ho N p _ (hp.mono (by omega)) (by simp) (by simp)).use ?_
  rintro _ _ ⟨v, p', rfl, rfl, hv, hp'⟩
  simp
  refine hid ⟨v, p', rfl, by simp, ?_, hp'⟩
  have c1 := cutS_ok (lo := none) (hi := some (-1)) hs
  have a1 : asciiB (s ++ "x") = true := by rw [ascii_app, hs]; decide +kernel
  have a2 : asciiB (s ++ " ") = true := by rw [ascii_app, hs]; decide +kernel
  have st : ∀ z : Str, asciiB z = true → z.length ≤ s.length + 5 → AnyV (d + 3) (3 * m + 100) (.str z) := fun z h1 h2 => ⟨by simpa [D.shape] using h1, by simp [D.dep], by simp only [D.bulk]; omega⟩
  simp only [List.mem_cons, List.not_mem_nil, or_false] at hv
  rcases hv with rfl | rfl | rfl | rfl | rfl | rfl | rfl | rfl | rfl | rfl
  · exact st _ a1 (by rw [app_len, l1]; omega)
  · exact st _ c1.1 (by omega)
  · exact st _ u1 (by omega)
  · exact st _ a2 (by rw [app_len, l2]; omega)
  · exact ⟨by simp [D.shape, D.shapes, hs], by simp [D.dep, D.deps], by simp [D.bulk, D.bulks]; omega⟩
  · exact st _ (by decide +kernel) (Nat.le_trans (by decide +kernel : ("a" : Str).length ≤ 5) (by omega))
  · exact st _ (by decide +kernel) (Nat.le_trans (by decide +kernel : ("end" : Str).length ≤ 5) (by omega))
  · exact st _ (by decide +kernel) (Nat.le_trans (by decide +kernel : ("" : Str).length ≤ 5) (by omega))
  · exact ⟨rfl, by simp [D.dep], by simp [D.bulk]⟩
  · exact ⟨by decide +kernel, by simp [D.dep], by simp [D.bulk]⟩
end
end Eg
set_option Elab.async false
set_option linter.all false
set_option maxRecDepth 8000
set_option maxHeartbeats 4000000
set_option exponentiation.threshold 5000
/-! bent tuples of texts -/
namespace Eg
open PySem
section
variable {S : Stat} {R : D → Option Str} {n : Nat} {fns : List Fn} {k : Nat}
theorem txt_bulks {xs : List D} (h : ∀ x ∈ xs, D.txt x = true) : D.shapes xs = true := shapes_all.mpr fun x hx => D.txt_shape x (h x hx)
theorem slFrom1 {xs : List D} (h : 1 ≤ xs.length) : slD (.tup xs) (some 1) none = some (.fr (.tup (xs.drop 1))) := slFrom0 (j := 1) h
theorem sIx_m1 {n d : Nat} : HT.sIx n d (some (-1)) = n - 1 := by
  unfold HT.sIx
  simp
  omega
theorem slTo_m1 {xs : List D} : slD (.tup xs) none (some (-1)) = some (.fr (.tup (xs.take (xs.length - 1)))) := by
  simp only [slD, sIx_m1, sIx_none, List.drop_zero, Nat.sub_zero]
theorem slFrom_m1 {xs : List D} : slD (.tup xs) (some (-1)) none = some (.fr (.tup (xs.drop (xs.length - 1)))) := by
  simp only [slD, sIx_m1, sIx_none]
  rw [List.take_of_length_le (by rw [List.length_drop]; omega)]
/-- a tuple bent as a whole: what can be drawn -/
def wholes (xs : List D) : List D := [.lst xs, .tup (xs.drop 1), .tup (xs.take (xs.length - 1)), .tup (xs ++ xs.drop (xs.length - 1)), .tup xs.reverse, .tup [], .tup (xs ++ [.int 0]), .non]
theorem wholes_any {xs : List D} {d m : Nat} (hs : D.shapes xs = true) (hd : D.deps xs ≤ d) (hm : D.bulks xs ≤ m) : ∀ v ∈ wholes xs, AnyV (d + 4) (3 * m + 100) v := by
  have b1 : ∀ ys : List D, ys.Sublist xs → D.bulks ys ≤ m := fun ys h => Nat.le_trans (bulks_sub h) hm
  have d1 : ∀ ys : List D, (∀ y ∈ ys, y ∈ xs) → D.deps ys ≤ d := fun ys h => deps_le.mpr fun y hy => deps_le.mp hd y (h y hy)
  have s1 : ∀ ys : List D, (∀ y ∈ ys, y ∈ xs) → D.shapes ys = true := fun ys h => shapes_all.mpr fun y hy => shapes_all.mp hs y (h y hy)
  have mk : ∀ ys : List D, (∀ y ∈ ys, y ∈ xs) → D.bulks ys ≤ 2 * m → AnyV (d + 4) (3 * m + 100) (.tup ys) := fun ys h1 h2 => ⟨by simpa [D.shape] using s1 ys h1, by have := d1 ys h1; simp [D.dep]; omega, by simp [D.bulk]; omega⟩
  intro v hv
  simp only [wholes, List.mem_cons, List.not_mem_nil, or_false] at hv
  rcases hv with rfl | rfl | rfl | rfl | rfl | rfl | rfl | rfl
  · exact ⟨by simpa [D.shape] using hs, by simp [D.dep]; omega, by simp [D.bulk]; omega⟩
  · exact mk _ (fun y hy => List.mem_of_mem_drop hy) (by have := b1 _ (List.drop_sublist 1 xs); omega)
  · exact mk _ (fun y hy => List.mem_of_mem_take hy) (by have := b1 _ (List.take_sublist (xs.length - 1) xs); omega)
  · refine mk _ (fun y hy => ?_) (by rw [bulks_app]; have := b1 _ (List.drop_sublist (xs.length - 1) xs); omega)
    rcases List.mem_append.mp hy with h | h
    · exact h
    · exact List.mem_of_mem_drop h
  · exact mk _ (fun y hy => by simpa using hy) (by rw [bulks_perm (List.reverse_perm xs)]; omega)
  · exact mk [] (by simp) (by simp [D.bulks])
  · refine ⟨?_, ?_, ?_⟩
    · simp only [D.shape]
      exact shapes_all.mpr fun y hy => by
        rcases List.mem_append.mp hy with h | h
        · exact shapes_all.mp hs y h
        · simp at h; subst h; decide +kernel
    · simp only [D.dep]
      have : D.deps (xs ++ [.int 0]) ≤ d := deps_le.mpr fun y hy => by
        rcases List.mem_append.mp hy with h | h
        · exact deps_le.mp hd y h
        · simp at h; subst h; simp [D.dep]
      omega
    · simp only [D.bulk, bulks_app]; simp [D.bulks, D.bulk]; omega
  · exact ⟨rfl, by simp [D.dep], by simp [D.bulk]⟩
theorem ascii_ok {s : Str} (h : asciiB s = true) : strOkB s = true := by
  simp only [asciiB, List.all_eq_true, decide_eq_true_eq] at h
  simp only [strOkB, PyData.strOk, Array.all_eq_true_iff_forall_mem]
  intro c hc
  have := h c (by simpa using hc)
  simp only [decide_eq_true_eq]
  omega
mutual
theorem D.txt_plain : ∀ (n : Nat) (x : D), x.txt = true → x.dep ≤ n → D.plain n x = true
  | _, .str s, h, _ => by simp only [D.txt] at h; simpa [D.plain] using ascii_ok h
  | 0, .tup xs, _, hd => by simp [D.dep] at hd
  | n + 1, .tup xs, h, hd => by simp only [D.txt] at h; simp only [D.dep] at hd; simpa [D.plain] using D.txts_plain n xs h (by omega)
  | _, .non, h, _ => by simp [D.txt] at h
  | _, .bl _, h, _ => by simp [D.txt] at h
  | _, .int _, h, _ => by simp [D.txt] at h
  | _, .lst _, h, _ => by simp [D.txt] at h
  | _, .dic _ _, h, _ => by simp [D.txt] at h
  | _, .ins _ _, h, _ => by simp [D.txt] at h
  | _, .exc _ _, h, _ => by simp [D.txt] at h
  | _, .pr _, h, _ => by simp [D.txt] at h
theorem D.txts_plain : ∀ (n : Nat) (xs : List D), D.txts xs = true → D.deps xs ≤ n → D.plains n xs = true
  | _, [], _, _ => by simp [D.plains]
  | n, x :: xs, h, hd => by
    simp only [D.txts, Bool.and_eq_true] at h
    simp only [D.deps] at hd
    simp [D.plains, D.txt_plain n x h.1 (by omega), D.txts_plain n xs h.2 (by omega)]
end
theorem eq_nil {xs : List D} (h : ∀ x ∈ xs, D.txt x = true) (hd : D.deps xs ≤ 19) : eqD (.tup xs) (.tup []) = some (decide (xs = [])) := by
  have h1 : D.plain 20 (.tup xs) = true := by simpa [D.plain] using D.txts_plain 19 xs (txts_all.mpr h) hd
  have h2 : D.plain 20 (.tup []) = true := by decide +kernel
  have h3 : D.eqv (.tup xs) (.tup []) = decide (xs = []) := by
    cases xs with
    | nil => decide +kernel
    | cons x xs => simp [D.eqv, D.py, D.pys, PyData.eqv, PyData.eqvAll]
  simp [eqD, h1, h2, h3]
theorem bent_W {i t b o q d : Nat} (h : fns[i]? = some ⟨2, 4, [], gLawBent t b o q⟩) (ht : TakeW (evF S R n fns k) t) (ho : OfW (evF S R n fns k) o) (hd15 : d ≤ 15) (hb : ∀ e, d = e + 1 → BentW (evF S R n fns k) b e) : BentW (evF S R n fns (k + 1)) i d := by
  intro N m p v hp hv hd hm hm2
  rcases txt_str hv with ⟨s, rfl, hs⟩ | ⟨xs, rfl, hx⟩
  · exact bent_str h ho N m p s hp hs (by simpa [D.bulk] using hm) hm2
  · refine f_wp h rfl ?_
    generalize evF S R n fns k = F at ht ho hb
    have hsh := txt_bulks hx
    simp only [D.dep] at hd
    simp only [D.bulk] at hm
    obtain ⟨e, rfl⟩ : ∃ e, d = e + 1 := ⟨d - 1, by omega⟩
    have hde : D.deps xs ≤ e := by omega
    have hlen := bulks_len xs
    have i1 : isiD S (.tup xs) (.inr "tuple") = some true := by simp [isiD, isBlt, tgNs, isTy, D.ty]
    have whole : ∀ (p : T), PotT (N + 1) p → (F o [.own p, .val (.lst (wholes xs))]).wp (fun r fin => ∃ (v' : D) (p' : T), r = .fr v' ∧ fin = [.own p', .val (.lst (wholes xs))] ∧ AnyV (e + 1 + 3) (3 * m + 100) v' ∧ PotT N p') noX := fun p hp => by
      refine (ho N p _ hp (by simp [wholes]) (by simp [wholes])).use ?_
      rintro _ _ ⟨v, p', rfl, rfl, hv, hp'⟩
      exact ⟨v, p', rfl, rfl, wholes_any hsh hde hm v hv, hp'⟩
    have w : ∀ ys : List D, wholes ys = [.lst ys, .tup (ys.drop 1), .tup (ys.take (ys.length - 1)), .tup (ys ++ ys.drop (ys.length - 1)), .tup ys.reverse, .tup [], .tup (ys ++ [.int 0]), .non] := fun _ => rfl
    have heq := eq_nil hx (by omega)
    have hs1 : slD (.tup xs) none (some (-1)) = some (.fr (.tup (xs.take (xs.length - 1)))) := slTo_m1
    have hs2 : slD (.tup xs) (some (-1)) none = some (.fr (.tup (xs.drop (xs.length - 1)))) := slFrom_m1
    by_cases hnil : xs = []
    · subst hnil
      have e0 : slD (.tup []) (some 1) none = some (.fr (.tup [])) := by rfl
      simp [gLawBent, i1, heq, hs1, hs2, e0]
      refine (whole p (hp.mono (by omega))).use ?_
      rintro _ _ ⟨v, p', rfl, rfl, hv, hp'⟩
      simp
      exact hid ⟨v, p', rfl, by simp, hv, hp'⟩
    · have hpos : 0 < xs.length := List.length_pos_iff.mpr hnil
      have e0 := slFrom1 hpos
      have two : (2 : Int) ^ 30 < 2 ^ 1000 := by decide +kernel
      simp [gLawBent, i1, heq, hnil]
      refine (ht (N + (2 * (e + 1) + 3)) p 6 (hp.mono (by omega)) (by omega) (by omega)).use ?_
      rintro _ _ ⟨c, p1, rfl, rfl, c0, c1, hp1⟩
      by_cases hc : 0 < c
      · simp [hc]
        refine (ht (N + (2 * e + 4)) p1 xs.length (hp1.mono (by omega)) (by omega) (by omega)).use ?_
        rintro _ _ ⟨j, p2, rfl, rfl, j0, j1, hp2⟩
        obtain ⟨j, rfl⟩ := Int.eq_ofNat_of_zero_le j0
        have hj : j < xs.length := by omega
        have hix : atD xs (j : Int) = some xs[j] := atI_nat (List.getElem?_eq_getElem hj)
        have t1 := slTo (xs := xs) (j := j) (by omega)
        have t2 := slFrom (xs := xs) (j := j) (by omega)
        have hmem := List.getElem_mem hj
        simp [hix, t1, t2]
        have hbx := bulks_mem hmem
        refine (hb e rfl N xs[j].bulk p2 xs[j] hp2 (hx _ hmem) (by have := deps_le.mp hde _ hmem; omega) (Nat.le_refl _) (by omega)).use ?_
        rintro _ _ ⟨v, p3, rfl, rfl, hv, hp3⟩
        simp [t2]
        refine ⟨by omega, by omega, hid ⟨_, p3, rfl, by simp, ?_, hp3⟩⟩
        have e1 : D.bulks xs = D.bulks (xs.take j) + (xs[j].bulk + 1 + D.bulks (xs.drop (j + 1))) := by
          have := congrArg D.bulks (List.take_append_drop j xs)
          rw [bulks_app, List.drop_eq_getElem_cons hj] at this
          simpa [D.bulks] using this.symm
        refine ⟨?_, ?_, ?_⟩
        · simp only [D.shape]
          refine shapes_all.mpr fun y hy => ?_
          rcases List.mem_append.mp hy with h1 | h1
          · exact shapes_all.mp hsh y (List.mem_of_mem_take h1)
          · rcases List.mem_cons.mp h1 with rfl | h1
            · exact hv.shape
            · exact shapes_all.mp hsh y (List.mem_of_mem_drop h1)
        · simp only [D.dep]
          have : D.deps (xs.take j ++ v :: xs.drop (j + 1)) ≤ e + 3 := deps_le.mpr fun y hy => by
            rcases List.mem_append.mp hy with h1 | h1
            · have := deps_le.mp hde y (List.mem_of_mem_take h1); omega
            · rcases List.mem_cons.mp h1 with rfl | h1
              · exact hv.dep
              · have := deps_le.mp hde y (List.mem_of_mem_drop h1); omega
          omega
        · simp only [D.bulk, bulks_app, D.bulks]
          have := hv.bulk
          omega
      · simp [hc, e0, hs1, hs2]
        refine ⟨by omega, by omega, ?_⟩
        have e9 : [D.lst xs, D.tup xs.tail, D.tup (xs.take (xs.length - 1)), D.tup (xs ++ xs.drop (xs.length - 1)), D.tup xs.reverse, D.tup [], D.tup (xs ++ [D.int 0]), D.non] = wholes xs := by simp [wholes]
        rw [e9]
        refine (whole p1 (hp1.mono (by omega))).use ?_
        rintro _ _ ⟨v, p', rfl, rfl, hv, hp'⟩
        simp
        exact hid ⟨v, p', rfl, by simp, hv, hp'⟩
end
end Eg
set_option Elab.async false
set_option linter.all false
set_option maxRecDepth 8000
set_option maxHeartbeats 4000000
set_option exponentiation.threshold 5000
/-! k05: values near to a row -/
namespace Eg
open PySem
section
variable {S : Stat} {R : D → Option Str} {n : Nat} {fns : List Fn} {k : Nat}
theorem row_txt {jm : List (Str × Str)} {xs : List D} (hn : ∀ x ∈ nmsOf jm, nameB x = true) (h : ∀ x ∈ xs, x ∈ allEv (nmsOf jm)) : ∀ x ∈ xs, D.txt x = true ∧ D.dep x = 1 ∧ D.bulk x ≤ 20 := by
  intro x hx
  have h1 := h x hx
  simp only [allEv, List.mem_flatMap, List.mem_cons, List.not_mem_nil, or_false] at h1
  obtain ⟨m, hm, e⟩ := h1
  have hm1 := hn m hm
  have hm2 := name_len hm1
  have hm3 : asciiB m = true := by
    simp only [nameB, Bool.and_eq_true, List.all_eq_true, decide_eq_true_eq] at hm1
    simp only [asciiB, List.all_eq_true, decide_eq_true_eq]
    intro c hc
    have h2 := hm1.2.2 c hc
    have h3 : ∀ c ∈ letters.cps.toList, c < 128 := by decide +kernel
    exact h3 c h2
  have b1 : asciiB "begin" = true ∧ ("begin" : Str).length = 5 := by decide +kernel
  have b2 : asciiB "end" = true ∧ ("end" : Str).length = 3 := by decide +kernel
  rcases e with rfl | rfl
  · exact ⟨by simp [evtD, D.txt, D.txts, hm3, b1.1], by simp [evtD, D.dep, D.deps], by simp [evtD, D.bulk, D.bulks, b1.2]; omega⟩
  · exact ⟨by simp [evtD, D.txt, D.txts, hm3, b2.1], by simp [evtD, D.dep, D.deps], by simp [evtD, D.bulk, D.bulks, b2.2]; omega⟩
theorem bulks_le {xs : List D} {m : Nat} (h : ∀ x ∈ xs, D.bulk x ≤ m) : D.bulks xs ≤ (m + 1) * xs.length := by
  induction xs with
  | nil => simp [D.bulks]
  | cons x xs ih =>
    have h1 := h x (by simp)
    have h2 := ih fun y hy => h y (by simp [hy])
    simp only [D.bulks, List.length_cons, Nat.mul_add]
    omega
@[simp] theorem toDs_app : ∀ xs ys : List T, T.toDs (xs ++ ys) = T.toDs xs ++ T.toDs ys
  | [], ys => by simp
  | x :: xs, ys => by simp [toDs_app xs ys]
theorem sIx_n {n d j : Nat} : HT.sIx n d (some (j : Int)) = min j n := by rw [HT.sIx_nat]
theorem slFromO {xs : List D} {j : Nat} : slD (.tup xs) (some ((j : Int) + 1)) none = some (.fr (.tup (xs.drop (j + 1)))) := by
  have e : ((j : Int) + 1) = ((j + 1 : Nat) : Int) := by omega
  simp only [slD, e, sIx_n, sIx_none]
  rw [List.take_of_length_le (by rw [List.length_drop]; omega)]
  by_cases h : j + 1 ≤ xs.length
  · rw [Nat.min_eq_left h]
  · rw [Nat.min_eq_right (by omega), List.drop_length, List.drop_of_length_le (by omega)]
theorem slOne {xs : List D} {j : Nat} (h : j ≤ xs.length) : slD (.tup xs) (some (j : Int)) (some ((j : Int) + 1)) = some (.fr (.tup ((xs.drop j).take 1))) := by
  have e : ((j : Int) + 1) = ((j + 1 : Nat) : Int) := by omega
  simp only [slD, e, sIx_n, Nat.min_eq_left h]
  by_cases h1 : j + 1 ≤ xs.length
  · rw [Nat.min_eq_left h1, show j + 1 - j = 1 by omega]
  · rw [Nat.min_eq_right (by omega : xs.length ≤ j + 1), show xs.length - j = 0 by omega, List.drop_of_length_le (by omega)]
    rfl
theorem mkT {ys : List D} (h : ∀ y ∈ ys, AnyV 5 41 y) (hl : ys.length ≤ 60) : AnyV 6 4000 (.tup ys) ∧ AnyV 6 4000 (.lst ys) := by
  have h1 : D.shapes ys = true := shapes_all.mpr fun y hy => (h y hy).shape
  have h2 : D.deps ys ≤ 5 := deps_le.mpr fun y hy => (h y hy).dep
  have h3 : D.bulks ys ≤ 4000 := by
    have := bulks_le fun y hy => (h y hy).bulk
    have : (41 + 1) * ys.length ≤ 42 * 60 := Nat.mul_le_mul_left _ hl
    omega
  exact ⟨⟨by simpa [D.shape] using h1, by simp [D.dep]; omega, by simp [D.bulk]; omega⟩, ⟨by simpa [D.shape] using h1, by simp [D.dep]; omega, by simp [D.bulk]; omega⟩⟩
theorem pr_any {d m : Nat} {v : D} (h : AnyV d m v) : v.isPr = false := by
  have := h.shape
  cases v with
  | pr xs => simp [D.shape] at this
  | _ => rfl
/-- _law_near: _law_pot_here, _law_jobs_here, _law_row_here, _law_name, _law_at, _law_found, _law_event, _law_lap -/
def gLawNear (iLawTake iLawOdd iLawBent : Nat) : Sts :=
  (.cons (.par [3, 4] (.cons false (.ix (.ix (.var 1) (.cst (.int 0))) (.cst (.int 0))) (.cons false (.call iLawTake (.cons false (.var 0) (.cons true (.bin .Add (.bi .len (.cons false (.var 2) .nil)) (.cst (.int 1))) .nil))) .nil)))
  (.cons (.asg 5 (.lst (.cons false (.var 2) (.cons false (.bi .list (.cons false (.var 2) .nil)) (.cons false (.bin .Add (.sl (.var 2) .none (.var 4)) (.sl (.var 2) (.bin .Add (.var 4) (.cst (.int 1))) .none)) (.cons false (.bin .Add (.bin .Add (.sl (.var 2) .none (.var 4)) (.sl (.var 2) (.var 4) (.bin .Add (.var 4) (.cst (.int 1))))) (.sl (.var 2) (.var 4) .none)) (.cons false (.rev (.var 2)) (.cons false (.tup .nil) (.cons false (.cst .non) (.cons false (.var 3) .nil))))))))))
  (.cons (.for_ (.nm 6) (.seq (.tup (.cons false (.tup (.cons false (.cst (.str "end")) (.cons false (.var 3) .nil))) (.cons false (.tup (.cons false (.cst (.str "begin")) (.cons false (.cst (.str "nosuch")) .nil))) (.cons false (.tup (.cons false (.cst (.str "Begin")) (.cons false (.var 3) .nil))) (.cons false (.lst (.cons false (.cst (.str "begin")) (.cons false (.var 3) .nil))) (.cons false (.tup (.cons false (.cst (.str "begin")) .nil)) (.cons false (.cst (.str "begin")) (.cons false (.cst .non) .nil))))))))) (.cons (.app 5 (.bin .Add (.bin .Add (.sl (.var 2) .none (.var 4)) (.tup (.cons false (.var 6) .nil))) (.sl (.var 2) (.var 4) .none)))
  .nil))
  (.cons (.ext 5 (.lst (.cons false (.bin .Add (.var 2) (.tup (.cons false (.tup (.cons false (.cst (.str "begin")) (.cons false (.var 3) .nil))) (.cons false (.tup (.cons false (.cst (.str "end")) (.cons false (.var 3) .nil))) .nil)))) (.cons false (.bin .Add (.tup (.cons false (.tup (.cons false (.cst (.str "end")) (.cons false (.var 3) .nil))) (.cons false (.tup (.cons false (.cst (.str "begin")) (.cons false (.var 3) .nil))) .nil))) (.var 2)) (.cons false (.tup (.cons false (.cst (.str "begin")) (.cons false (.var 3) .nil))) .nil)))))
  (.cons (.ext 5 (.lst (.cons false (.bin .Add (.bin .Add (.sl (.var 2) .none (.var 4)) (.tup (.cons false (.tup (.cons false (.cst (.str "begin")) (.cons false (.var 3) (.cons false (.cst (.int 0)) .nil)))) .nil))) (.sl (.var 2) (.var 4) .none)) (.cons false (.call iLawOdd (.cons false (.var 0) .nil)) .nil))))
  (.cons (.ret (.bin .Add (.var 5) (.comp (.call iLawBent (.cons false (.var 0) (.cons true (.var 2) .nil))) (.nm 7) (.rng1 (.cst (.int 4))) .tt [7])))
  .nil))))))
def NearW (F : Nat → Env → OutF) (i : Nat) : Prop := ∀ (N : Nat) (p : T) (jm : List (Str × Str)) (xs : List D), PotT (N + 100) p → JmOk jm → RowOk jm xs → xs.length ≤ 25 →
  (F i [.own p, .val (jmD jm), .val (.tup xs)]).wp (fun r fin => ∃ (vs : List D) (p' : T), r = .lst (vs.map .fr) ∧ fin = [.own p', .val (jmD jm), .val (.tup xs)] ∧ (∀ v ∈ vs, AnyV 6 4000 v) ∧ vs.length ≤ 30 ∧ PotT N p') noX
theorem near_W {i t o b : Nat} (h : fns[i]? = some ⟨3, 8, [5], gLawNear t o b⟩) (ht : TakeW (evF S R n fns k) t) (ho : OddW (evF S R n fns k) o) (hb : BentW (evF S R n fns k) b 2) : NearW (evF S R n fns (k + 1)) i := by
  intro N p jm xs hp hj hr hl
  refine f_wp h rfl ?_
  generalize evF S R n fns k = F at ht ho hb
  have hx := row_txt hj.names.name hr.ev
  have hpos := hj.names.pos
  rw [nms_len] at hpos
  obtain ⟨q, rest, rfl⟩ : ∃ q rest, jm = q :: rest := by
    cases jm with
    | nil => simp at hpos
    | cons q rest => exact ⟨q, rest, rfl⟩
  have k0 : ixD (jmD (q :: rest)) (.int 0) = some (pairS q) := by simp [jmD]
  have k1 : ixD (pairS q) (.int 0) = some (.str q.1) := by simp [pairS]
  have two : (2 : Int) ^ 30 < 2 ^ 1000 := by decide +kernel
  simp [gLawNear, k0, k1]
  have e1 : ((xs.length : Int) + 1) = ((xs.length + 1 : Nat) : Int) := by omega
  rw [e1]
  refine (ht (N + 99) p _ hp (by omega) (by omega)).use ?_
  rintro _ _ ⟨j, p1, rfl, rfl, j0, j1, hp1⟩
  obtain ⟨j, rfl⟩ := Int.eq_ofNat_of_zero_le j0
  have hjl : j ≤ xs.length := by omega
  have t1 := slTo (xs := xs) (j := j) hjl
  have t2 : slD (.tup xs) (some ((j : Int) + 1)) none = some (.fr (.tup (xs.drop (j + 1)))) := slFromO
  have t3 := slFrom0 (xs := xs) (j := j) hjl
  have t4 : slD (.tup xs) (some (j : Int)) (some ((j : Int) + 1)) = some (.fr (.tup ((xs.drop j).take 1))) := slOne hjl
  simp [t1, t2, t3, t4]
  refine ⟨by omega, by omega, by omega, ?_⟩
  have nmq : asciiB q.1 = true ∧ q.1.length ≤ 8 := by
    have h1 := hj.names.name q.1 (by simp [nmsOf])
    have h2 := row_txt (jm := q :: rest) (xs := [evtD "begin" q.1]) hj.names.name (by intro x hx; simp at hx; subst hx; rw [allEv_cons]; simp)
    have h3 := (h2 (evtD "begin" q.1) (by simp)).1
    exact ⟨by simpa [evtD, D.txt, D.txts, show asciiB "begin" = true by decide +kernel] using h3, name_len h1⟩
  have hxa : ∀ x ∈ xs, AnyV 5 41 x := fun x hm => by
    obtain ⟨a, b, c⟩ := hx x hm
    exact ⟨D.txt_shape x a, by omega, by omega⟩
  have ta : ∀ i, ∀ y ∈ xs.take i, AnyV 5 41 y := fun i y hy => hxa y (List.mem_of_mem_take hy)
  have da : ∀ i, ∀ y ∈ xs.drop i, AnyV 5 41 y := fun i y hy => hxa y (List.mem_of_mem_drop hy)
  have app : ∀ {as bs : List D}, (∀ y ∈ as, AnyV 5 41 y) → (∀ y ∈ bs, AnyV 5 41 y) → ∀ y ∈ as ++ bs, AnyV 5 41 y := fun h1 h2 y hy => (List.mem_append.mp hy).elim (h1 y) (h2 y)
  have ins : ∀ y, AnyV 5 41 y → AnyV 6 4000 (.tup (xs.take j ++ y :: xs.drop j)) := fun y hy => (mkT (app (ta j) (fun z hz => (List.mem_cons.mp hz).elim (fun e => e ▸ hy) (da j z))) (by simp; omega)).1
  have strA : ∀ s : Str, asciiB s = true → s.length ≤ 10 → AnyV 5 41 (.str s) := fun s h1 h2 => ⟨by simpa [D.shape] using h1, by simp [D.dep], by simp [D.bulk]; omega⟩
  have lit : ∀ s : Str, (s = "begin" ∨ s = "end" ∨ s = "nosuch" ∨ s = "Begin") → asciiB s = true ∧ s.length ≤ 10 := fun s h => by
    rcases h with rfl | rfl | rfl | rfl <;> decide +kernel
  have pair : ∀ a b : Str, asciiB a = true → a.length ≤ 10 → asciiB b = true → b.length ≤ 10 → AnyV 5 41 (.tup [.str a, .str b]) ∧ AnyV 5 41 (.lst [.str a, .str b]) := fun a b h1 h2 h3 h4 => ⟨⟨by simp [D.shape, D.shapes, h1, h3], by simp [D.dep, D.deps], by simp [D.bulk, D.bulks]; omega⟩, ⟨by simp [D.shape, D.shapes, h1, h3], by simp [D.dep, D.deps], by simp [D.bulk, D.bulks]; omega⟩⟩
  have lb := lit "begin" (by simp)
  have le := lit "end" (by simp)
  have ln := lit "nosuch" (by simp)
  have lB := lit "Begin" (by simp)
  have q10 : q.1.length ≤ 10 := by omega
  refine for_wp (fun ys ρ => ∃ (ds : List D) (s6 : Sl), ρ = [.own p1, .val (jmD (q :: rest)), .val (.tup xs), .val (.str q.1), .val (.int (j : Int)), .own (.lst (ds.map .fr)), s6, .unb] ∧ (∀ v ∈ ds, AnyV 6 4000 v) ∧ ds.length + ys.length ≤ 15 ∧ ∀ y ∈ ys, AnyV 5 41 y) ?_ ?_ _ _ ?_
  rotate_left 2
  · refine ⟨[.tup xs, .lst xs, .tup (xs.take j ++ xs.drop (j + 1)), .tup (xs.take j ++ ((xs.drop j).take 1 ++ xs.drop j)), .tup xs.reverse, .tup [], .non, .str q.1], .unb, by simp, ?_, by simp, ?_⟩
    · intro v hv
      simp only [List.mem_cons, List.not_mem_nil, or_false] at hv
      rcases hv with rfl | rfl | rfl | rfl | rfl | rfl | rfl | rfl
      · exact (mkT hxa (by omega)).1
      · exact (mkT hxa (by omega)).2
      · exact (mkT (app (ta j) (da (j + 1))) (by simp; omega)).1
      · exact (mkT (app (ta j) (app (fun y hy => da j y (List.mem_of_mem_take hy)) (da j))) (by simp; omega)).1
      · exact (mkT (fun y hy => hxa y (by simpa using hy)) (by simp; omega)).1
      · exact (mkT (ys := []) (by simp) (by simp)).1
      · exact ⟨rfl, by simp [D.dep], by simp [D.bulk]⟩
      · exact (strA _ nmq.1 q10).mono (by omega) (by omega)
    · intro y hy
      simp only [List.mem_cons, List.not_mem_nil, or_false] at hy
      rcases hy with rfl | rfl | rfl | rfl | rfl | rfl | rfl
      · exact (pair _ _ le.1 le.2 nmq.1 q10).1
      · exact (pair _ _ lb.1 lb.2 ln.1 ln.2).1
      · exact (pair _ _ lB.1 lB.2 nmq.1 q10).1
      · exact (pair _ _ lb.1 lb.2 nmq.1 q10).2
      · exact ⟨by simp [D.shape, D.shapes, lb.1], by simp [D.dep, D.deps], by simp [D.bulk, D.bulks]; omega⟩
      · exact strA _ lb.1 lb.2
      · exact ⟨rfl, by simp [D.dep], by simp [D.bulk]⟩
  rotate_left 1
  · rintro y ys ρ ⟨ds, s6, rfl, hds, hdl, hys⟩
    have hy := hys y (by simp)
    simp only [List.length_cons] at hdl
    refine ⟨_, by simp [pr_any hy]; rfl, ?_⟩
    simp [t1, t3]
    refine ⟨by omega, by omega, by omega, hid ⟨ds ++ [.tup (xs.take j ++ y :: xs.drop j)], _, by simp; rfl, ?_, by simp; omega, fun z hz => hys z (by simp [hz])⟩⟩
    intro v hv
    rcases List.mem_append.mp hv with h1 | h1
    · exact hds v h1
    · simp at h1; subst h1; exact ins y hy
  · rintro ρ ⟨ds, s6, rfl, hds, hdl, -⟩
    simp only [List.length_nil, Nat.add_zero] at hdl
    simp [t1, t3]
    refine ⟨by omega, by omega, by omega, by omega, by omega, ?_⟩
    refine (ho (N + 98) p1 hp1).use ?_
    rintro _ _ ⟨v, p2, rfl, rfl, hv, hp2⟩
    have r4 : rangeD 0 4 = (List.range 4).map fun (k : Nat) => D.int (k : Int) := rangeD_nat 4
    rw [r4]
    simp
    refine ⟨by omega, by decide, ?_⟩
    refine goT_wp (enc := fun (k : Nat) => D.int (k : Int)) (fun ys acc ρ => ∃ (p' : T) (s5 s6 s7 : Sl), ρ = [.own p', .val (jmD (q :: rest)), .val (.tup xs), .val (.str q.1), .val (.int (j : Int)), s5, s6, s7] ∧ (∀ v ∈ acc, AnyV 6 4000 v) ∧ acc.length + ys.length = 4 ∧ PotT (N + 8 * ys.length) p') ?_ ?_ (List.range 4) [] _ ?_
    rotate_left 2
    · exact ⟨p2, _, _, _, rfl, by simp, by simp, hp2.mono (by simp)⟩
    rotate_left 1
    · rintro y ys acc ρ ⟨p3, s5, s6, s7, rfl, hacc, hal, hp3⟩
      simp only [List.length_cons] at hal hp3
      refine ⟨_, by simp; rfl, ?_⟩
      simp
      have hbx : D.bulks xs ≤ 525 := by
        have := bulks_le fun x hm => (hx x hm).2.2
        have : (20 + 1) * xs.length ≤ 21 * 25 := Nat.mul_le_mul_left _ hl
        omega
      refine (hb (N + 8 * ys.length) 525 p3 (.tup xs) (hp3.mono (by omega)) (by simpa [D.txt] using txts_all.mpr fun x hm => (hx x hm).1) ?_ (by simpa [D.bulk] using hbx) (by omega)).use ?_
      · have : D.deps xs ≤ 1 := deps_le.mpr fun x hm => by have := (hx x hm).2.1; omega
        simp only [D.dep]; omega
      rintro _ _ ⟨w, p4, rfl, rfl, hw, hp4⟩
      simp
      refine hid ⟨p4, _, _, _, rfl, ?_, by simp; omega, hp4⟩
      intro v hv
      rcases List.mem_append.mp hv with h1 | h1
      · exact hacc v h1
      · simp at h1; subst h1; exact hw.mono (by omega) (by omega)
    · rintro es ρ' ⟨p3, s5, s6, s7, rfl, hacc, hal, hp3⟩
      simp only [List.length_nil, Nat.add_zero, Nat.mul_zero] at hal hp3
      refine ⟨by omega, hid ⟨ds ++ [.tup (xs ++ [.tup [.str "begin", .str q.1], .tup [.str "end", .str q.1]]), .tup (.tup [.str "end", .str q.1] :: .tup [.str "begin", .str q.1] :: xs), .tup [.str "begin", .str q.1], .tup (xs.take j ++ .tup [.str "begin", .str q.1, .int 0] :: xs.drop j), v] ++ es, p3, by simp, by simp, ?_, by simp; omega, hp3⟩⟩
      have pb := (pair _ _ lb.1 lb.2 nmq.1 q10).1
      have pe := (pair _ _ le.1 le.2 nmq.1 q10).1
      intro z hz
      rcases List.mem_append.mp hz with h1 | h1
      · rcases List.mem_append.mp h1 with h1 | h1
        · exact hds z h1
        · simp only [List.mem_cons, List.not_mem_nil, or_false] at h1
          rcases h1 with rfl | rfl | rfl | rfl | rfl
          · exact (mkT (app hxa (fun y hy => by simp at hy; rcases hy with rfl | rfl; exact pb; exact pe)) (by simp; omega)).1
          · exact (mkT (fun y hy => by simp at hy; rcases hy with rfl | rfl | hy; exact pe; exact pb; exact hxa y hy) (by simp; omega)).1
          · exact pb.mono (by omega) (by omega)
          · exact ins _ ⟨by simp [D.shape, D.shapes, lb.1, nmq.1], by simp [D.dep, D.deps], by simp [D.bulk, D.bulks]; omega⟩
          · exact hv.mono (by omega) (by omega)
      · exact hacc z h1
end
end Eg
set_option Elab.async false
set_option linter.all false
set_option maxRecDepth 8000
set_option maxHeartbeats 4000000
set_option exponentiation.threshold 5000
/-! k05: standings told and refused -/
namespace Eg
open PySem
section
variable {S : Stat} {R : D → Option Str} {F : Nat → Env → OutF} {n : Nat} {ρ : Env} {X : D → Env → Prop} {Q : T → Env → Prop}
@[simp] theorem fld_ins {c m : Nat} {ds : List D} : (fldT S F (.fr (.ins c ds)) m ρ).wp Q X = match S.fld c m with
    | some k => TryO ds[k]? fun d => Q (.fr d) ρ
    | none => match S.prop c m with
      | some f => (F f [.val (.ins c ds)]).wp (fun t _ => Q t ρ) (fun _ _ => False)
      | none => False := by
  simp only [fldT]
  cases S.fld c m with
  | some k => dsimp only; cases ds[k]? <;> rfl
  | none =>
    simp only [propT]
    cases S.prop c m with
    | none => rfl
    | some f =>
      dsimp only
      generalize F f [.val (.ins c ds)] = r
      cases r <;> dsimp only <;> simp only [f_ret, f_exc, f_bad, wp_ok, wp_bad]
@[simp] theorem fld_exc {c m : Nat} {d : D} : (fldT S F (.fr (.exc c d)) m ρ).wp Q X = if m = 0 && S.isX c && decide (c < S.nC) then Q (.fr d) ρ else False := by
  simp only [fldT, wp_ite, wp_ok, wp_bad]
end
section
variable {S : Stat} {R : D → Option Str} {n : Nat} {fns : List Fn} {k : Nat}
/-- Book_jobs: self -/
def gBookJobs (n_jobs : Nat) : Sts :=
  (.cons (.ret (.fld (.var 0) n_jobs))
  .nil)
def BookJobsP (F : Nat → Env → OutF) (c i : Nat) : Prop := ∀ (js : List Str) (ms : List (Str × Str)) (facts : List D) (text : Str), F i [.val (bookD c js ms facts text)] = .ret (.fr (.tup (strL js))) [.val (bookD c js ms facts text)]
theorem bookJobs_P {i c nT nJ nM nF : Nat} (h : fns[i]? = some ⟨1, 1, [], gBookJobs nJ⟩) (hS : BookFld S c nT nJ nM nF) : BookJobsP (evF S R n fns (k + 1)) c i := by
  intro js ms facts text
  refine eq_of_wp (f_wp h rfl ?_)
  generalize evF S R n fns k = F
  simp [gBookJobs, bookD, hS.jobs]
  exact hid (by simp [bookD])
theorem isRowB_walk {js : List Str} {v : D} (h : isRowB js v = true) : ∃ xs ss, v = .tup xs ∧ xs.length ≤ 24 ∧ walk js (st0 js.length) xs = some ss := by
  unfold isRowB at h
  split at h
  · rename_i xs
    simp only [Bool.and_eq_true, decide_eq_true_eq, Option.isSome_iff_exists] at h
    obtain ⟨h1, ss, h2⟩ := h
    exact ⟨xs, ss, rfl, h1, h2⟩
  · cases h
theorem isRowB_no {js : List Str} {v : D} (h : isRowB js v = false) : walkD js v 24 = .non := by
  unfold isRowB at h
  unfold walkD
  split
  · rename_i xs
    simp only [Bool.and_eq_false_iff, decide_eq_false_iff_not, Option.isSome_eq_false_iff, Option.isNone_iff_eq_none] at h
    split
    · rename_i h1
      rcases h with h | h
      · exact absurd h1 h
      · rw [h]
    · rfl
  · rfl
/-- standings: book, row, found -/
def gStandings (iWalked cBadRow nJobs : Nat) : Sts :=
  (.cons (.asg 2 (.call iWalked (.cons true (.fld (.var 0) nJobs) (.cons true (.var 1) (.cons true (.cst (.int 24)) .nil)))))
  (.cons (.ifs (.ex (.cmp .Is (.var 2) (.cst .non))) (.cons (.raise cBadRow (.var 1))
  .nil) .nil)
  (.cons (.ret (.var 2))
  .nil)))
/-- where a Book's property stands -/
structure BookProp (S : Stat) (c nJ i : Nat) : Prop where
  fld : S.fld c nJ = none
  prop : S.prop c nJ = some i
def StandOk (F : Nat → Env → OutF) (c b i : Nat) : Prop := ∀ (v : D) (js : List Str) (ms : List (Str × Str)) (facts : List D) (text : Str), v.fine = true → js.length ≤ 8000 →
  (∀ xs ss, v = .tup xs → xs.length ≤ 24 → walk js (st0 js.length) xs = some ss → F i [.val (bookD c js ms facts text), .val v] = .ret (.fr (.tup (ss.map stD))) [.val (bookD c js ms facts text), .val v]) ∧
  (isRowB js v = false → F i [.val (bookD c js ms facts text), .val v] = .exc (.exc b v) [.val (bookD c js ms facts text), .val v])
theorem standings_P {i w c b nJ j : Nat} (h : fns[i]? = some ⟨2, 3, [], gStandings w b nJ⟩) (hS : BookProp S c nJ j) (hj : BookJobsP (evF S R n fns k) c j) (hw : WalkedP (evF S R n fns k) w) : StandOk (evF S R n fns (k + 1)) c b i := by
  intro v js ms facts text hv hjl
  have e24 : (24 : Int) = ((24 : Nat) : Int) := rfl
  have hw1 := hw v js 24 hv hjl
  constructor
  · intro xs ss e h1 h2
    subst e
    have e3 : walkD js (.tup xs) 24 = .tup (ss.map stD) := by simp [walkD, h1, h2]
    rw [e3] at hw1
    refine eq_of_wp (f_wp h rfl ?_)
    generalize evF S R n fns k = F at hj hw1
    have hj1 := hj js ms facts text
    simp only [bookD] at hj1
    have hw2 : F w [.val (.tup (strL js)), .val (.tup xs), .val (.int 24)] = _ := hw1
    simp [gStandings, bookD, hS.fld, hS.prop, hj1, hw2]
    exact hid ⟨rfl, by simp [bookD]⟩
  · intro h1
    rw [isRowB_no h1] at hw1
    refine exc_of_wp (f_wp h rfl ?_)
    generalize evF S R n fns k = F at hj hw1
    have hj1 := hj js ms facts text
    simp only [bookD] at hj1
    have hw2 : F w [.val (.tup (strL js)), .val v, .val (.int 24)] = _ := hw1
    simp [gStandings, bookD, hS.fld, hS.prop, hj1, hw2]
    exact hid ⟨rfl, by simp [bookD]⟩
theorem walk_in {js : List Str} : ∀ {xs : List D} {st : St2} {ss : List St2} {m : Int}, StIn js st m → walk js st xs = some ss → ss.length = xs.length ∧ ∀ s ∈ ss, StIn js s (m + xs.length)
  | [], st, ss, m, _, h => by
    simp only [walk, Option.some.injEq] at h
    subst h
    simp
  | y :: ys, st, ss, m, hi, h => by
    simp only [walk] at h
    split at h
    · rename_i hc
      cases e : walk js (bh js st y) ys with
      | none => rw [e] at h; cases h
      | some s2 =>
        rw [e] at h
        simp only [Option.map_some, Option.some.injEq] at h
        subst h
        have hb := bh_in hi hc
        obtain ⟨h1, h2⟩ := walk_in hb e
        refine ⟨by simp [h1], fun s hs => ?_⟩
        rcases List.mem_cons.mp hs with rfl | hs
        · exact ⟨hb.len, fun p hp => by have := hb.lo p hp; simp; omega⟩
        · have := h2 s hs
          exact ⟨this.len, fun p hp => by have := this.lo p hp; simp at this ⊢; omega⟩
    · cases h
theorem stD_any {js : List Str} {st : St2} (h : StIn js st 40) (hl : js.length ≤ 10) : AnyV 2 40 (stD st) := by
  have hp : ∀ p ∈ st, AnyV 1 2 (pairI p) := fun p hp => by
    have h1 := h.lo p hp
    have a1 : p.1.natAbs.log2 < 900 := natLog2_lt (Nat.lt_of_lt_of_le (by omega : p.1.natAbs < 2 ^ 6) (Nat.pow_le_pow_right (by decide) (by decide))) (by decide)
    have a2 : p.2.natAbs.log2 < 900 := natLog2_lt (Nat.lt_of_lt_of_le (by omega : p.2.natAbs < 2 ^ 6) (Nat.pow_le_pow_right (by decide) (by decide))) (by decide)
    exact ⟨by simp [pairI, D.shape, D.shapes, a1, a2], by simp [pairI, D.dep, D.deps], by simp [pairI, D.bulk, D.bulks]⟩
  have hm : ∀ x ∈ st.map pairI, AnyV 1 2 x := fun x hx => by obtain ⟨p, h1, rfl⟩ := List.mem_map.mp hx; exact hp p h1
  refine ⟨?_, ?_, ?_⟩
  · simp only [stD, D.shape]; exact shapes_all.mpr fun x hx => (hm x hx).shape
  · have : D.deps (st.map pairI) ≤ 1 := deps_le.mpr fun x hx => (hm x hx).dep
    simp only [stD, D.dep]; omega
  · have h1 := bulks_le fun x hx => (hm x hx).bulk
    have h2 := h.len
    simp only [List.length_map] at h1
    simp only [stD, D.bulk]
    omega
theorem walk_any {js : List Str} {xs : List D} {ss : List St2} (hl : js.length ≤ 10) (hx : xs.length ≤ 25) (h : walk js (st0 js.length) xs = some ss) : AnyV 3 1100 (.tup (ss.map stD)) := by
  obtain ⟨h1, h2⟩ := walk_in (st0_in js) h
  have hm : ∀ x ∈ ss.map stD, AnyV 2 40 x := fun x hx => by
    obtain ⟨s, hs, rfl⟩ := List.mem_map.mp hx
    have := h2 s hs
    exact stD_any ⟨this.len, fun p hp => by have := this.lo p hp; omega⟩ hl
  refine ⟨?_, ?_, ?_⟩
  · simp only [D.shape]; exact shapes_all.mpr fun x hx => (hm x hx).shape
  · have : D.deps (ss.map stD) ≤ 2 := deps_le.mpr fun x hx => (hm x hx).dep
    simp only [D.dep]; omega
  · have h3 := bulks_le fun x hx => (hm x hx).bulk
    simp only [List.length_map, h1] at h3
    simp only [D.bulk]
    have : (40 + 1) * xs.length ≤ 41 * 25 := Nat.mul_le_mul_left _ hx
    omega
end
end Eg
set_option Elab.async false
set_option linter.all false
set_option maxRecDepth 8000
set_option maxHeartbeats 8000000
set_option exponentiation.threshold 5000
/-! k05: the law -/
namespace Eg
open PySem
section
variable {S : Stat} {R : D → Option Str} {n : Nat} {fns : List Fn} {k : Nat}
/-- _law_any_manners:  -/
def gLawAnyManners : Sts :=
  (.cons (.ret (.lst (.cons false (.cst (.str "plain")) (.cons false (.cst (.str "plain")) (.cons false (.cst (.str "clean")) (.cons false (.cst (.str "clean")) (.cons false (.cst (.str "spent")) (.cons false (.cst (.str "free")) .nil))))))))
  .nil)
def mans6 : List Str := ["plain", "plain", "clean", "clean", "spent", "free"]
def AnyMannersP (F : Nat → Env → OutF) (i : Nat) : Prop := F i [] = .ret (.lst ((strL mans6).map .fr)) []
theorem anyManners_P {i : Nat} (h : fns[i]? = some ⟨0, 0, [], gLawAnyManners⟩) : AnyMannersP (evF S R n fns (k + 1)) i := by
  refine eq_of_wp (f_wp h rfl ?_)
  simp [gLawAnyManners]
  exact hid ⟨by simp [strL, mans6], rfl⟩
/-- _law_cells: _law_script, _law_most -/
def gLawCells : Sts :=
  (.cons (.ret (.lrng (.rng1 (.bi .max2 (.cons false (.cst (.int 1)) (.cons false (.bi .min2 (.cons false (.var 1) (.cons false (.bi .len (.cons false (.var 0) .nil)) .nil))) .nil))))))
  .nil)
def CellsP (F : Nat → Env → OutF) (i : Nat) : Prop := ∀ (ns : List Int) (m : Nat), ns.length ≤ 1000 → 0 < m → m ≤ 1000 → ∃ l : Nat, l ≤ m ∧ F i [.val (.lst (ns.map .int)), .val (.int (m : Int))] = .ret (.lst (((List.range l).map fun (k : Nat) => D.int (k : Int)).map .fr)) [.val (.lst (ns.map .int)), .val (.int (m : Int))]
theorem cells_P {i : Nat} (h : fns[i]? = some ⟨2, 2, [], gLawCells⟩) : CellsP (evF S R n fns (k + 1)) i := by
  intro ns m hl h0 hm
  have e : ∃ l : Nat, l ≤ m ∧ (if 1 < if ns.length < m then (ns.length : Int) else (m : Int) then if ns.length < m then (ns.length : Int) else (m : Int) else 1) = (l : Int) := by
    by_cases h1 : ns.length < m
    · rw [if_pos h1]
      by_cases h2 : 1 < (ns.length : Int)
      · exact ⟨ns.length, by omega, by rw [if_pos h2]⟩
      · exact ⟨1, by omega, by rw [if_neg h2]; rfl⟩
    · rw [if_neg h1]
      by_cases h2 : 1 < (m : Int)
      · exact ⟨m, by omega, by rw [if_pos h2]⟩
      · exact ⟨1, by omega, by rw [if_neg h2]; rfl⟩
  obtain ⟨l, h1, h2⟩ := e
  refine ⟨l, h1, eq_of_wp (f_wp h rfl ?_)⟩
  simp [gLawCells]
  rw [h2, rangeD_nat]
  exact ⟨okRange_nat (by omega), by simp; omega, hid ⟨rfl, by simp⟩⟩
/-- _law_right: _law_pot_here, _law_jobs_here, _law_rows, _law_row_here, _law_caught, _law_told_here, _law_book_here, _law_value -/
def gLawRight (iLawJobs iLawAnyManners iLawBook iLawRow iLawLongRow iLawNear iStandings iLawIsRow iLawStandings cStockError cBadRow nValue : Nat) : Sts :=
  (.cons (.asg 1 (.call iLawJobs (.cons false (.var 0) (.cons true (.cst (.int 4)) (.cons true (.call iLawAnyManners .nil) .nil)))))
  (.cons (.asg 6 (.call iLawBook (.cons true (.dic [.inr "jobs", .inr "facts"] (.cons false (.var 1) (.cons false (.lst .nil) .nil))) .nil)))
  (.cons (.asg 2 (.lst (.cons false (.call iLawRow (.cons false (.var 0) (.cons true (.var 1) (.cons true (.cst (.int 24)) .nil)))) (.cons false (.call iLawLongRow (.cons false (.var 0) (.cons true (.var 1) (.cons true (.cst (.int 24)) .nil)))) (.cons false (.call iLawLongRow (.cons false (.var 0) (.cons true (.var 1) (.cons true (.cst (.int 25)) .nil)))) .nil)))))
  (.cons (.for_ (.nm 3) (.seq (.var 2)) (.cons (.for_ (.nm 7) (.seq (.call iLawNear (.cons false (.var 0) (.cons true (.var 1) (.cons true (.var 3) .nil))))) (.cons (.asgT (.tp [(.nm 4), (.nm 5)]) (.told cStockError (.call iStandings (.cons true (.var 6) (.cons true (.var 7) .nil)))))
  (.cons (.ifs (.ex (.call iLawIsRow (.cons true (.var 1) (.cons true (.var 7) .nil)))) (.cons (.ifs (.or (.ex (.cmp .IsNot (.var 4) (.cst .non))) (.ex (.cmp .NotEq (.bi .repr (.cons false (.var 5) .nil)) (.bi .repr (.cons false (.call iLawStandings (.cons true (.var 1) (.cons true (.var 7) .nil))) .nil))))) (.cons (.ret (.cst (.bl false)))
  .nil) .nil)
  .nil) (.cons (.ifs (.or (.not (.ex (.isi (.var 4) (.inl cBadRow)))) (.ex (.cmp .NotEq (.bi .repr (.cons false (.fld (.var 4) nValue) .nil)) (.bi .repr (.cons false (.var 7) .nil))))) (.cons (.ret (.cst (.bl false)))
  .nil) .nil)
  .nil))
  .nil)))
  .nil))
  (.cons (.ret (.cmp .Eq (.bi .len (.cons false (.call iStandings (.cons true (.var 6) (.cons true (.ix (.var 2) (.cst (.int 1))) .nil))) .nil)) (.cst (.int 24))))
  .nil)))))
/-- where the laws' errors stand -/
structure ExcOk (S : Stat) (b s : Nat) : Prop where
  lt : b < S.nC
  lt2 : s < S.nC
  isX : S.isX b = true
  sub : S.sub b s = true
  self : S.sub b b = true
def RightW (F : Nat → Env → OutF) (i : Nat) : Prop := ∀ (N : Nat) (p : T), PotT (N + 500) p → (F i [.own p]).wp (fun r fin => ∃ (p' : T), r = .fr (.bl true) ∧ fin = [.own p'] ∧ PotT N p') noX
theorem right_W {i a b c d e f g h' j l cS cB cK : Nat} (h : fns[i]? = some ⟨1, 8, [], gLawRight a b c d e f g h' j cS cB 0⟩) (hE : ExcOk S cB cS)
    (ha : JobsW (evF S reprD n fns k) a) (hb : AnyMannersP (evF S reprD n fns k) b) (hc : LBookP (evF S reprD n fns k) cK c) (hd : RowW (evF S reprD n fns k) d) (he : LongRowW (evF S reprD n fns k) e) (hf : NearW (evF S reprD n fns k) f) (hg : StandOk (evF S reprD n fns k) cK cB g) (hh : LIsRowP (evF S reprD n fns k) h') (hj : LStandingsP (evF S reprD n fns k) j) : RightW (evF S reprD n fns (k + 1)) i := by
  intro N p hp
  refine f_wp h rfl ?_
  generalize evF S reprD n fns k = F at ha hb hc hd he hf hg hh hj
  have hb : F b [] = .ret (.lst ((strL mans6).map .fr)) [] := hb
  have jf : ¬ (("jobs" : Str) = "facts") := by decide
  simp [gLawRight, hb, jf]
  have e4 : (4 : Int) = ((4 : Nat) : Int) := rfl
  refine (ha (N + 491) 4 mans6 p (hp.mono (by omega)) (by decide) (by decide) (by decide) (by decide)).use ?_
  rintro _ _ ⟨jm, p1, rfl, rfl, hjo, hj4, hp1⟩
  have hm6 : ∀ x ∈ mans6, x ∈ manners4 := by decide +kernel
  have hjm : JmOk jm := ⟨⟨by have := hjo.pos; rw [nms_len]; omega, by rw [nms_len]; exact hj4, fun x hx => pool_name x (hjo.pool x hx), hjo.nodup⟩, fun x hx => hm6 x (hjo.man x hx)⟩
  have hjD : D.lst (jm.map pairS) = jmD jm := rfl
  have hlo : D.dic [.inr "jobs", .inr "facts"] [jmD jm, .lst []] = loreD jm [] := rfl
  simp [hjD, hlo, hc jm hjm]
  generalize hB : bookD cK (nmsOf jm) (mansOf jm) [] (textOf jm) = book
  have e24 : (24 : Int) = ((24 : Nat) : Int) := rfl
  have e25 : (25 : Int) = ((25 : Nat) : Int) := rfl
  refine (hd (N + 466) 24 p1 jm hp1 (by decide) hjo.pos (by omega)).use ?_
  rintro _ _ ⟨r1, p2, rfl, rfl, hr1, hl1, hp2⟩
  simp
  refine (he (N + 442) 24 p2 jm hp2 (by decide) hjo.pos (by omega)).use ?_
  rintro _ _ ⟨r2, p3, rfl, rfl, hr2, hl2, hp3⟩
  simp
  refine (he (N + 417) 25 p3 jm hp3 (by decide) hjo.pos (by omega)).use ?_
  rintro _ _ ⟨r3, p4, rfl, rfl, hr3, hl3, hp4⟩
  simp
  refine for_wp (fun ys ρ => ∃ (q : T) (s3 s4 s5 s7 : Sl), ρ = [.own q, .val (jmD jm), .val (.lst [.tup r1, .tup r2, .tup r3]), s3, s4, s5, .val book, s7] ∧ PotT (N + 100 * ys.length) q ∧ ∀ y ∈ ys, ∃ xs, y = .tup xs ∧ RowOk jm xs ∧ xs.length ≤ 25) ?_ ?_ _ _ ?_
  rotate_left 2
  · refine ⟨p4, .unb, .unb, .unb, .unb, rfl, hp4.mono (by simp), ?_⟩
    intro y hy
    simp only [List.mem_cons, List.not_mem_nil, or_false] at hy
    rcases hy with rfl | rfl | rfl
    · exact ⟨r1, rfl, hr1, by omega⟩
    · exact ⟨r2, rfl, hr2, by omega⟩
    · exact ⟨r3, rfl, hr3, by omega⟩
  · rintro ρ ⟨q, s3, s4, s5, s7, rfl, hq, -⟩
    simp only [List.length_nil, Nat.mul_zero, Nat.add_zero] at hq
    obtain ⟨ss, hw⟩ := hr2.walk
    have hf2 : (D.tup r2).fine = true := by
      have hxx := row_txt hjm.names.name hr2.ev
      exact (mkT (fun x hm => by obtain ⟨a, b, c⟩ := hxx x hm; exact ⟨D.txt_shape x a, by omega, by omega⟩) (by omega)).1.fine (by decide)
    have hst := (hg (.tup r2) (nmsOf jm) (mansOf jm) [] (textOf jm) hf2 (by rw [nms_len]; omega)).1 r2 ss rfl (by omega) hw
    rw [hB] at hst
    have hlen := (walk_in (st0_in _) hw).1
    simp [hst, hlen, hl2]
    exact hid ⟨q, rfl, by simp, hq⟩
  · rintro y ys ρ ⟨q, s3, s4, s5, s7, rfl, hq, hys⟩
    obtain ⟨xs, rfl, hrx, hlx⟩ := hys y (by simp)
    simp only [List.length_cons] at hq
    refine ⟨_, by simp; rfl, ?_⟩
    simp
    refine (hf (N + 100 * ys.length) q jm xs (hq.mono (by omega)) hjm hrx hlx).use ?_
    rintro _ _ ⟨vs, q2, rfl, rfl, hvs, hvl, hq2⟩
    simp
    refine for_wp (fun zs ρ => ∃ (s4 s5 s7 : Sl), ρ = [.own q2, .val (jmD jm), .val (.lst [.tup r1, .tup r2, .tup r3]), .val (.tup xs), s4, s5, .val book, s7] ∧ ∀ z ∈ zs, AnyV 6 4000 z) ?_ ?_ _ _ ?_
    rotate_left 2
    · exact ⟨_, _, _, rfl, hvs⟩
    · rintro ρ ⟨s4, s5, s7, rfl, -⟩
      exact hid ⟨q2, _, s4, s5, s7, rfl, hq2, fun z hz => hys z (by simp [hz])⟩
    · rintro z zs ρ ⟨s4, s5, s7, rfl, hzs⟩
      have hz := hzs z (by simp)
      have hzf := hz.fine (by decide)
      have hgz := hg z (nmsOf jm) (mansOf jm) [] (textOf jm) hzf (by rw [nms_len]; omega)
      rw [hB] at hgz
      refine ⟨_, by simp [pr_any hz]; rfl, ?_⟩
      have hrow := hh z jm hzf (by omega)
      cases eb : isRowB (nmsOf jm) z with
      | true =>
        obtain ⟨xs', ss, rfl, hx1, hx2⟩ := isRowB_walk eb
        have hst := hgz.1 xs' ss rfl hx1 hx2
        rw [eb] at hrow
        have hj10 : (nmsOf jm).length ≤ 10 := by rw [nms_len]; omega
        obtain ⟨rs, hrs⟩ := (walk_any hj10 (by omega) hx2).repr (by decide) (by decide)
        have hpr : ∀ x ∈ xs', x.isPr = false := fun x hm => not_pr ((fine_tup.mp hzf).2 x hm)
        have hls := hj xs' jm ss hpr (by omega) (by omega) hx2
        simp [hst, hrow, hrs, hls]
        exact hid ⟨_, _, _, rfl, fun z hz => hzs z (by simp [hz])⟩
      | false =>
        have hst := hgz.2 eb
        rw [eb] at hrow
        obtain ⟨rz, hrz⟩ := hz.repr (by decide) (by decide)
        have hi : isiD S (.exc cB z) (.inl cB) = some true := by simp [isiD, isOwn, hE.lt, hE.isX, hE.self]
        simp [hst, hrow, hrz, hi, hE.lt, hE.lt2, hE.isX, hE.sub]
        exact hid ⟨_, _, _, rfl, fun z hz => hzs z (by simp [hz])⟩
/-- law: _law_script, _law_place, _law_pot_here, _law_lap -/
def gLaw5 (iLawCells iLawPot iLawRight : Nat) : Sts :=
  (.cons (.for_ (.nm 1) (.seq (.call iLawCells (.cons true (.var 0) (.cons true (.cst (.int 4)) .nil)))) (.cons (.asg 2 (.call iLawPot (.cons true (.var 0) (.cons true (.var 1) .nil))))
  (.cons (.ifs (.not (.ex (.bi .all (.cons false (.comp (.call iLawRight (.cons false (.var 2) .nil)) (.nm 3) (.rng1 (.cst (.int 3))) .tt [3]) .nil)))) (.cons (.ret (.cst (.bl false)))
  .nil) .nil)
  .nil)))
  (.cons (.ret (.cst (.bl true)))
  .nil))
def PotP (F : Nat → Env → OutF) (i : Nat) : Prop := ∀ (ns : List Int) (m : Nat), ns.length ≤ 1000 → m ≤ 1000 → ∃ t, F i [.val (.lst (ns.map .int)), .val (.int (m : Int))] = .ret t [.val (.lst (ns.map .int)), .val (.int (m : Int))] ∧ PotT (2 ^ 100) t
theorem pot_P {q1 q2 q3 q4 q5 : Int} {t : Nat} (h : fns[t]? = some ⟨2, 5, [], bPotG q1 q2 q3 q4 q5⟩) (j1 : 0 ≤ q1) (l1 : q1 < 2 ^ 30) (j3 : 0 ≤ q3) (l3 : q3 < 2 ^ 30) (j4 : 0 ≤ q4) (l4 : q4 < 2 ^ 30) : PotP (evF S R n fns (k + 1)) t := by
  intro ns m hl hm
  obtain ⟨a, b, c, e, p⟩ := pot_cell (S := S) (R := R) (n := n) (k := k) (ns := ns) (i := (m : Int)) h (by omega) (by omega) (by omega) j1 l1 j3 l3 j4 l4
  exact ⟨_, e, 0, a, b, c, rfl, p, by omega⟩
theorem law5 {i c q r : Nat} (h : fns[i]? = some ⟨1, 4, [2], gLaw5 c q r⟩) (hc : CellsP (evF S R n fns k) c) (hq : PotP (evF S R n fns k) q) (hr : RightW (evF S R n fns k) r) (ns : List Int) (hl : ns.length ≤ 63) : ∃ fin, evF S R n fns (k + 1) i [.val (.lst (ns.map .int))] = .ret (.fr (.bl true)) fin := by
  have w : (evF S R n fns (k + 1) i [.val (.lst (ns.map .int))]).wp (fun t _ => t = .fr (.bl true)) noX := by
    refine f_wp h rfl ?_
    generalize evF S R n fns k = F at hc hq hr
    obtain ⟨l, hl4, hcl⟩ := hc ns 4 (by omega) (by decide) (by decide)
    have hcl : F c [.val (.lst (ns.map .int)), .val (.int 4)] = .ret (.lst (((List.range l).map fun (k : Nat) => D.int (k : Int)).map .fr)) [.val (.lst (ns.map .int)), .val (.int 4)] := hcl
    simp [gLaw5, hcl]
    refine forT_wp (enc := fun (k : Nat) => D.int (k : Int)) (fun ys ρ => ∃ (s1 s2 s3 : Sl), ρ = [.val (.lst (ns.map .int)), s1, s2, s3] ∧ (match s3 with
      | .own _ => False
      | _ => True) ∧ ∀ y ∈ ys, y ≤ 1000) ?_ ?_ (List.range l) _ ?_
    rotate_left 2
    · exact ⟨_, _, _, rfl, trivial, fun y hy => by have := List.mem_range.mp hy; omega⟩
    · rintro ρ ⟨s1, s2, s3, rfl, -, -⟩
      exact hid rfl
    · rintro y ys ρ ⟨s1, s2, s3, rfl, h3, hys⟩
      obtain ⟨t, e, hp⟩ := hq ns y (by omega) (hys y (by simp))
      have r3 : rangeD 0 3 = (List.range 3).map fun (k : Nat) => D.int (k : Int) := rangeD_nat 3
      have n3 : (match (some s3 : Option Sl) with
        | some (.own _) => false
        | _ => true) = true := by
        cases s3 with
        | own t => exact h3.elim
        | _ => rfl
      refine ⟨_, by simp; rfl, ?_⟩
      simp [e, r3]
      refine ⟨by decide, by cases s3 with
        | own t => exact h3.elim
        | _ => rfl, ?_⟩
      refine goT_wp (enc := fun (k : Nat) => D.int (k : Int)) (fun zs acc ρ => ∃ (t : T) (s : Sl), ρ = [.val (.lst (ns.map .int)), .val (.int (y : Int)), .own t, s] ∧ PotT (1000 * zs.length) t ∧ ∃ m, acc = List.replicate m (.bl true)) ?_ ?_ (List.range 3) [] _ ?_
      rotate_left 2
      · exact ⟨t, _, rfl, hp.mono (by simp), 0, rfl⟩
      rotate_left 1
      · rintro z zs acc ρ ⟨t, s, rfl, ht, m, rfl⟩
        simp only [List.length_cons] at ht
        refine ⟨_, by simp; rfl, ?_⟩
        simp
        refine (hr (1000 * zs.length) t (ht.mono (by omega))).use ?_
        rintro _ _ ⟨t2, rfl, rfl, ht2⟩
        simp
        exact hid ⟨t2, _, rfl, ht2, m + 1, by rw [List.replicate_succ']⟩
      · rintro ds ρ' ⟨t, s, rfl, -, m, rfl⟩
        have ha : allB (List.replicate m (.bl true)) = some true := by
          induction m with
          | zero => rfl
          | succ m ih => simp [List.replicate_succ, allB, ih]
        simp [ha]
        exact hid ⟨.val (.int (y : Int)), .own t, s3, by simp, h3, fun z hz => hys z (by simp [hz])⟩
  generalize evF S R n fns (k + 1) i [.val (.lst (ns.map .int))] = o at w
  cases o with
  | ret t fin => exact ⟨fin, by rw [f_ret] at w; rw [w]⟩
  | exc d fin => rw [f_exc] at w; exact w.elim
  | bad => rw [f_bad] at w; exact w.elim
end
end Eg
set_option Elab.async false
set_option linter.all false
set_option maxRecDepth 100000
set_option maxHeartbeats 4000000
set_option exponentiation.threshold 5000
namespace L05
open PySem PySem.Spec PyProof.Rows L2
open He hiding SaysX obsX valX saysX_of AlX hookX
open Eg
abbrev S0 : Stat := statOf cs nms
abbrev Ff (k : Nat) : Nat → Eg.Env → OutF := evF S0 reprD 0 fns k
theorem take_k (k : Nat) : TakeW (Ff (k + 1)) 21 := (take_F (k1 := 101021) (k2 := 72) (k3 := 10113) (k4 := 132) rfl (by decide) (by decide) (by decide) (by decide) (by decide) (by decide) (by decide) (by decide)).w
theorem takeF_k (k : Nat) : TakeF (Ff (k + 1)) 21 := take_F (k1 := 101021) (k2 := 72) (k3 := 10113) (k4 := 132) rfl (by decide) (by decide) (by decide) (by decide) (by decide) (by decide) (by decide) (by decide)
theorem of_k (k : Nat) : OfW (Ff (k + 2)) 22 := (of_F (t := 21) rfl (takeF_k k)).w
theorem some_k (k : Nat) : SomeW (Ff (k + 2)) 23 := @some_W S0 reprD 0 fns _ _ _ (by kernel_rfl) (take_k k)
theorem names_k (k : Nat) : NamesW (Ff (k + 3)) 27 := @names_W S0 reprD 0 fns _ _ _ (by kernel_rfl) (some_k k)
theorem jobs_k (k : Nat) : JobsW (Ff (k + 4)) 28 := @jobs_W S0 reprD 0 fns _ _ _ _ _ (by kernel_rfl) (take_k (k + 2)) (of_k (k + 1)) (names_k k)
theorem odd_k (k : Nat) : OddW (Ff (k + 3)) 25 := @odd_W S0 reprD 0 fns _ _ _ (by kernel_rfl) (of_k k)
theorem any_k (k : Nat) : AnyMannersP (Ff (k + 1)) 29 := @anyManners_P S0 reprD 0 fns _ _ (by kernel_rfl)
theorem cells_k (k : Nat) : CellsP (Ff (k + 1)) 24 := @cells_P S0 reprD 0 fns _ _ (by kernel_rfl)
theorem pot_k (k : Nat) : PotP (Ff (k + 1)) 20 := @pot_P S0 reprD 0 fns _ 183 64 73751 8147 159 _ (by kernel_rfl) (by decide) (by decide) (by decide) (by decide) (by decide) (by decide)
theorem isTuple_k (k : Nat) : IsTupleP (Ff (k + 1)) 0 := @isTuple_P S0 reprD 0 fns _ _ (by kernel_rfl)
theorem isWord_k (k : Nat) : IsWordP (Ff (k + 1)) 1 := @isWord_P S0 reprD 0 fns _ _ (by kernel_rfl)
theorem isEvent_k (k : Nat) : IsEventP (Ff (k + 2)) 15 := @isEvent_P S0 reprD 0 fns _ _ _ _ (by kernel_rfl) (isTuple_k k) (isWord_k k)
theorem canCome_k (k : Nat) : CanComeP (Ff (k + 3)) 16 := @canCome_P S0 reprD 0 fns _ _ _ (by kernel_rfl) (isEvent_k k)
theorem behind_k (k : Nat) : BehindP (Ff (k + 1)) 17 := @behind_P S0 reprD 0 fns _ _ (by kernel_rfl)
theorem walked_k (k : Nat) : WalkedP (Ff (k + 4)) 18 := @walked_P S0 reprD 0 fns _ _ _ _ (by kernel_rfl) (canCome_k k) (behind_k (k + 2))
theorem fldS : BookFld S0 6 4 1 2 3 := ⟨by kernel_rfl, by kernel_rfl, by kernel_rfl, by kernel_rfl⟩
theorem propS : BookProp S0 6 5 14 := ⟨by kernel_rfl, by kernel_rfl⟩
theorem bookJobs_k (k : Nat) : BookJobsP (Ff (k + 1)) 6 14 := @bookJobs_P S0 reprD 0 fns _ _ _ _ _ _ _ (by kernel_rfl) fldS
theorem standings_k (k : Nat) : StandOk (Ff (k + 5)) 6 5 19 := @standings_P S0 reprD 0 fns _ _ _ _ _ _ _ (by kernel_rfl) propS (bookJobs_k (k + 3)) (walked_k k)
theorem isName_k (k : Nat) : IsNameP (Ff (k + 1)) 2 := @isName_P S0 reprD 0 fns _ _ (by kernel_rfl)
theorem areUnlike_k (k : Nat) : AreUnlikeP (Ff (k + 1)) 4 := @areUnlike_P S0 reprD 0 fns _ _ (by kernel_rfl)
theorem jobsIn_k (k : Nat) : JobsInP (Ff (k + 2)) 7 := @jobsIn_P S0 reprD 0 fns _ _ _ _ (by kernel_rfl) (isName_k k) (areUnlike_k k)
theorem taken_k (k : Nat) : TakenManP (Ff (k + 1)) 11 := @takenMan_P S0 reprD 0 fns _ _ 9 10 (by kernel_rfl)
theorem read_k (k : Nat) : ReadP (Ff (k + 3)) 12 := @read_P S0 reprD 0 fns _ _ _ _ 1 (by kernel_rfl) (jobsIn_k k) (taken_k (k + 1))
theorem init_k (k : Nat) : BookInitP (Ff (k + 4)) 6 13 := @bookInit_P S0 reprD 0 fns _ _ _ _ _ _ _ _ (by kernel_rfl) fldS (read_k k)
theorem lines_k (k : Nat) : LLinesP (Ff (k + 1)) 40 := @llines_P S0 reprD 0 fns _ _ 39 (by kernel_rfl)
theorem text_k (k : Nat) : LTextP (Ff (k + 2)) 41 := @ltext_P S0 reprD 0 fns _ _ _ (by kernel_rfl) (lines_k k)
theorem book_k (k : Nat) : LBookP (Ff (k + 5)) 6 42 := @lbook_P S0 reprD 0 fns _ _ _ _ _ (by kernel_rfl) (by kernel_rfl) (text_k (k + 2)) (init_k k)
theorem first_k (k : Nat) : LFirstP (Ff (k + 1)) 30 := @lfirst_P S0 reprD 0 fns _ _ (by kernel_rfl)
theorem levent_k (k : Nat) : LIsEventP (Ff (k + 1)) 31 := @lisEvent_P S0 reprD 0 fns _ _ (by kernel_rfl)
theorem lbehind_k (k : Nat) : LBehindP (Ff (k + 1)) 32 := @lbehind_P S0 reprD 0 fns _ _ (by kernel_rfl)
theorem lcome_k (k : Nat) : LCanComeP (Ff (k + 2)) 33 := @lcanCome_P S0 reprD 0 fns _ _ _ (by kernel_rfl) (lbehind_k k)
theorem levents_k (k : Nat) : LEventsP (Ff (k + 3)) 34 := @levents_P S0 reprD 0 fns _ _ _ (by kernel_rfl) (lcome_k k)
theorem lrow_k (k : Nat) : LIsRowP (Ff (k + 3)) 35 := @lisRow_P S0 reprD 0 fns _ _ _ _ _ _ (by kernel_rfl) (levent_k (k + 1)) (first_k (k + 1)) (lcome_k k) (lbehind_k (k + 1))
theorem lstand_k (k : Nat) : LStandingsP (Ff (k + 2)) 36 := @lstandings_P S0 reprD 0 fns _ _ _ _ (by kernel_rfl) (first_k k) (lbehind_k k)
theorem long_k (k : Nat) : LongRowW (Ff (k + 4)) 43 := @longRow_W S0 reprD 0 fns _ _ _ _ _ _ (by kernel_rfl) (first_k (k + 2)) (of_k (k + 1)) (levents_k k) (lbehind_k (k + 2))
theorem row_k (k : Nat) : RowW (Ff (k + 4)) 37 := @row_W S0 reprD 0 fns _ _ _ _ _ _ _ (by kernel_rfl) (take_k (k + 2)) (first_k (k + 2)) (of_k (k + 1)) (levents_k k) (lbehind_k (k + 2))
theorem bent0_k (k : Nat) : BentW (Ff (k + 3)) 26 0 := @bent_W S0 reprD 0 fns _ _ _ 26 _ 25 _ (by kernel_rfl) (take_k (k + 1)) (of_k k) (by decide) (fun e h => by omega)
theorem bent1_k (k : Nat) : BentW (Ff (k + 4)) 26 1 := @bent_W S0 reprD 0 fns _ _ _ 26 _ 25 _ (by kernel_rfl) (take_k (k + 2)) (of_k (k + 1)) (by decide) (by intro e h; have h0 : e = 0 := (by omega); subst h0; exact bent0_k k)
theorem bent2_k (k : Nat) : BentW (Ff (k + 5)) 26 2 := @bent_W S0 reprD 0 fns _ _ _ 26 _ 25 _ (by kernel_rfl) (take_k (k + 3)) (of_k (k + 2)) (by decide) (by intro e h; have h0 : e = 1 := (by omega); subst h0; exact bent1_k k)
theorem near_k (k : Nat) : NearW (Ff (k + 6)) 44 := @near_W S0 reprD 0 fns _ _ _ _ _ (by kernel_rfl) (take_k (k + 4)) (odd_k (k + 2)) (bent2_k k)
theorem excS : ExcOk S0 5 0 := ⟨by decide +kernel, by decide +kernel, by kernel_rfl, by kernel_rfl, by kernel_rfl⟩
theorem right_k (k : Nat) : RightW (Ff (k + 7)) 45 := right_W (l := 0) (by kernel_rfl) excS (jobs_k (k + 2)) (any_k (k + 5)) (book_k (k + 1)) (row_k (k + 2)) (long_k (k + 2)) (near_k k) (standings_k (k + 1)) (lrow_k (k + 3)) (lstand_k (k + 4))
end L05
set_option Elab.async false
set_option linter.all false
set_option maxRecDepth 100000
set_option maxHeartbeats 4000000
set_option exponentiation.threshold 5000
namespace L05
open PySem PySem.Spec PyProof.Rows L2
open He hiding SaysX obsX valX saysX_of AlX hookX
open Eg
theorem plain (ns : List Int) (h : ns.length ≤ 63) : ∃ fin, evD cs nms 0 defs 12 46 [Sl.val (.lst (ns.map .int))] = .ret (.fr (.bl true)) fin := by
  unfold evD
  rw [fns_eq]
  exact law5 (k := 11) (by kernel_rfl) (cells_k 10) (pot_k 10) (right_k 4) ns h
end L05
set_option Elab.async false
set_option linter.all false
set_option maxRecDepth 100000
set_option maxHeartbeats 4000000
set_option exponentiation.threshold 5000
namespace L05
open PySem PySem.Spec PyProof.Rows L2
open He hiding SaysX obsX valX saysX_of AlX hookX
open Eg
end L05
open PySem PySem.W PySem.Calls PyProof.Rows
theorem PySem.Challenge.cw_unseenstocks_k05_rows_and_their_standing_holds : PySem.Challenge.rw_unseenstocks_k05_rows_and_their_standing.Holds := by
  w_on; o_law
  refine HandSHeadRun.head_any (r := L05.R) (q := view L05.R.prog [87]) (H := L05.hk) (ob := L05.ob) (M := 20000) (loose := L05.names) (d := HandSHeadRun.topDef L05.R.prog 87) (kwd := []) L05.ob_eq
    (by kernel_rfl) (fun s => by kernel_rfl) L05.run (by kernel_rfl) (by kernel_rfl) (by kernel_rfl) (by rfl) (by first | assumption | decide +kernel) (by decide +kernel) ⟨rfl, rfl, rfl, rfl, rfl, by decide +kernel⟩ ?hw ?hc
  case hw => w_witness2
  case hc =>
    refine Eg.walk_ofEt (l := PySem.Challenge.rw_unseenstocks_k05_rows_and_their_standing) (n := 63) (k := 85) (x := "_law_script") rfl (by decide) (by kernel_rfl) ⟨rfl, by decide, by decide⟩ ?F
    intro w mg fa h Y G hmg0
    obtain ⟨K, KX, c, T⟩ := Y
    have hmg : mg ("law" : PySem.Str) = some (.ref fa) := by
      have e : (HandSHeadRun.topDef L05.R.prog 87).name = ("law" : PySem.Str) := by kernel_rfl
      rw [← e]
      exact hmg0
    have e := hmg.symm.trans (He.glo_ok KX G (He.ba (He.ba c.all).2).2)
    cases e
    have B := L05.lawB c
    obtain ⟨oc, od, osl, kV, doc, pm, an, cdv, ct, lk, hcd, _⟩ := B.def_ 46 L05.dLaw rfl
    exact ⟨Eg.wdOf K L05.cs L05.tf, _, Eg.evD L05.cs L05.nms 0 L05.defs 12 46, _, KX, T, fun q hq => (let ⟨p, hp, e⟩ := List.mem_map.mp hq; ⟨He.cT K p.1, List.mem_map.mpr ⟨p.1, List.mem_map.mpr ⟨p, hp, rfl⟩, rfl⟩, by rw [← e]⟩), fun s u => .of_eq (L05.g46.bnd kV doc pm an cdv ct [u] rfl), fun ns hl => L05.plain ns hl, fun base X G TB => B.fnE X G TB 0 12 46 L05.dLaw rfl lk hcd⟩
