import PyProof.Rows.All
import Wide.All
import OpenK.AllK
import Wide.FinOn
import HandS.ForMost
import HandS.ForExc
import HandS.Flow
import HandS.Lambda
import HandS.Defaults
import HandS.IsInst
import HandS.ExcValue
import HandS.ExcSuper
import HandS.Wide
import HandS.Head0
import HandS.Head1
import HandS.Head2
import HandS.HeadEnd
import HandS.HeadHook1
import HandS.HeadHook2
import KE.KExcIs
import HandS.TupAny
import HandS.Deep
import HandS.Conv
import KE.KExcSuper
import KE.KSuper
import HandS.ExcInit
import PyProof.ReprRoads
import HandS.Property
import HandS.CallRecv
import KE.KStateDown
import HandS.Ends
import PySem.Challenge.RW_unseenstocks_k78_errors_keep_their_value
set_option Elab.async false
set_option linter.all false
set_option maxRecDepth 100000
set_option maxHeartbeats 4000000
/-! the engine: data, own trees, what stands for them -/
namespace Eg
open PySem PySem.Spec PyProof.Rows L2

/-- data: never changes any more -/
inductive D where
  | non | bl (b : Bool) | int (i : Int) | str (s : Str)
  | tup (xs : List D) | lst (xs : List D)
  | dic (ks : List Key) (vs : List D)
  | ins (c : Nat) (vs : List D)
  | exc (c : Nat) (d : D)
  deriving Inhabited

/-- own trees: what is still changed by its one holder -/
inductive T where
  | fr (d : D)
  | lst (ts : List T)
  | dic (ks : List Key) (ts : List T)
  | ins (c : Nat) (ts : List T)
  deriving Inhabited

mutual
def T.toD : T → D
  | .fr d => d
  | .lst ts => .lst (T.toDs ts)
  | .dic ks ts => .dic ks (T.toDs ts)
  | .ins c ts => .ins c (T.toDs ts)
def T.toDs : List T → List D
  | [] => []
  | t :: ts => T.toD t :: T.toDs ts
end
theorem T.toDs_map : ∀ ts : List T, T.toDs ts = ts.map T.toD
  | [] => by simp [T.toDs]
  | t :: ts => by simp [T.toDs, T.toDs_map ts]
theorem toDs_fr : ∀ ds : List D, T.toDs (ds.map T.fr) = ds
  | [] => by simp [T.toDs]
  | d :: ds => by simp [T.toDs, T.toD, toDs_fr ds]

/-- what is linked: the written part, the classes' places -/
structure Wd where
  K : PySem.W.Frag
  cA : Nat → Addr
  fl : Nat → List Str
  T : List (Addr × Str)

/-- locked for good -/
def Fz (H : Hp) (a : Addr) (u : HO) : Prop := ∃ o, H a = some (.frz o u)
/-- a list that never changes -/
def SqF (K : PySem.W.Frag) (H : Hp) (a : Addr) (xs : List V) : Prop :=
  Fz H a (.lst xs) ∨
    ∃ (o : Obj) (its : Array Value) (n : Nat), K.lookup a = some o ∧ o.cls = .type "list" ∧ o.dict = none ∧ o.data = .seq its n ∧ its.size ≤ sizeLine ∧ Vals xs its.toList
theorem SqF.sql {K : PySem.W.Frag} {H : Hp} {a : Addr} {xs : List V} (h : SqF K H a xs) : SqL K H a xs := by
  rcases h with ⟨o, h⟩ | h
  · exact .inl (.inr ⟨o, h⟩)
  · exact .inr h
/-- an exception's object: its class, its own dict (no dict yet: none) -/
def ExF (H : Hp) (a : Addr) (C : Addr) (fs : List (Str × V)) : Prop :=
  ∃ oe dx, Fz H a (.ext fun h => h.get? a = some oe) ∧ oe.cls = .ref C ∧ oe.dict = some dx ∧ (∃ v, oe.data = .fields v) ∧ Fz H dx (.xd fs)

mutual
inductive Rep (W : Wd) (H : Hp) : D → V → Prop where
  | non : Rep W H .non .non
  | bl (b : Bool) : Rep W H (.bl b) (.bl b)
  | int (i : Int) : Rep W H (.int i) (.int i)
  | str (s : Str) : Rep W H (.str s) (.str s)
  | tup {ds : List D} {a : Addr} {vs : List V} : SqT W.K H a vs → Reps W H ds vs → Rep W H (.tup ds) (.ref a)
  | lst {ds : List D} {a : Addr} {vs : List V} : SqF W.K H a vs → Reps W H ds vs → Rep W H (.lst ds) (.ref a)
  | dic {ks : List Key} {ds : List D} {a : Addr} {vs : List V} : Fz H a (.dK (ks.zip vs)) → Reps W H ds vs → ks.length = vs.length → Rep W H (.dic ks ds) (.ref a)
  | ins {c : Nat} {ds : List D} {a dx : Addr} {vs : List V} : Fz H a (.ins (W.cA c) dx ((W.fl c).zip vs)) → Reps W H ds vs → vs.length ≤ (W.fl c).length → Rep W H (.ins c ds) (.ref a)
  | exc {c : Nat} {d : D} {a : Addr} {v : V} : ExF H a (W.cA c) [("value", v)] → Rep W H d v → Rep W H (.exc c d) (.ref a)
inductive Reps (W : Wd) (H : Hp) : List D → List V → Prop where
  | nil : Reps W H [] []
  | cons {d : D} {v : V} {ds : List D} {vs : List V} : Rep W H d v → Reps W H ds vs → Reps W H (d :: ds) (v :: vs)
end

/-- what no statement of ours changes in place -/
def Stab : HO → Prop
  | .lst _ => False
  | .dK _ => False
  | .dT _ => False
  | .set _ _ => False
  | .ins _ _ _ => False
  | .tbl _ => False
  | _ => True
/-- what never changes is there as it was -/
structure Ext (H H' : Hp) : Prop where
  keep : ∀ a o, H a = some o → Stab o → H' a = some o
theorem Ext.refl (H : Hp) : Ext H H := ⟨fun _ _ h _ => h⟩
theorem Ext.trans {H H1 H2 : Hp} (a : Ext H H1) (b : Ext H1 H2) : Ext H H2 := ⟨fun x o h z => b.keep x o (a.keep x o h z) z⟩
theorem Ext.tup {H H' : Hp} (e : Ext H H') : ∀ a xs, H a = some (.tup xs) → H' a = some (.tup xs) := fun a _ h => e.keep a _ h True.intro
theorem Ext.frz {H H' : Hp} (e : Ext H H') : ∀ a o u, H a = some (.frz o u) → H' a = some (.frz o u) := fun a _ _ h => e.keep a _ h True.intro
theorem Fz.ext {H H' : Hp} {a : Addr} {u : HO} (e : Ext H H') (h : Fz H a u) : Fz H' a u := let ⟨o, h⟩ := h; ⟨o, e.frz _ _ _ h⟩
theorem SqT.ext {K : PySem.W.Frag} {H H' : Hp} {a : Addr} {xs : List V} (e : Ext H H') (h : SqT K H a xs) : SqT K H' a xs := by
  rcases h with (h | ⟨o, h⟩) | h
  · exact .inl (.inl (e.tup _ _ h))
  · exact .inl (.inr ⟨o, e.frz _ _ _ h⟩)
  · exact .inr h
theorem SqF.ext {K : PySem.W.Frag} {H H' : Hp} {a : Addr} {xs : List V} (e : Ext H H') (h : SqF K H a xs) : SqF K H' a xs := by
  rcases h with h | h
  · exact .inl (h.ext e)
  · exact .inr h
theorem ExF.ext {H H' : Hp} {a C : Addr} {fs : List (Str × V)} (e : Ext H H') (h : ExF H a C fs) : ExF H' a C fs := by
  obtain ⟨oe, dx, h1, h2, h3, h4, h5⟩ := h
  exact ⟨oe, dx, h1.ext e, h2, h3, h4, h5.ext e⟩
mutual
theorem Rep.ext {W : Wd} {H H' : Hp} (e : Ext H H') : ∀ {d : D} {v : V}, Rep W H d v → Rep W H' d v
  | _, _, .non => .non
  | _, _, .bl b => .bl b
  | _, _, .int i => .int i
  | _, _, .str s => .str s
  | _, _, .tup h r => .tup (SqT.ext e h) (Reps.ext e r)
  | _, _, .lst h r => .lst (SqF.ext e h) (Reps.ext e r)
  | _, _, .dic h r l => .dic (h.ext e) (Reps.ext e r) l
  | _, _, .ins h r l => .ins (h.ext e) (Reps.ext e r) l
  | _, _, .exc h r => .exc (h.ext e) (Rep.ext e r)
theorem Reps.ext {W : Wd} {H H' : Hp} (e : Ext H H') : ∀ {ds : List D} {vs : List V}, Reps W H ds vs → Reps W H' ds vs
  | _, _, .nil => .nil
  | _, _, .cons h r => .cons (Rep.ext e h) (Reps.ext e r)
end
theorem Reps.length {W : Wd} {H : Hp} : ∀ {ds : List D} {vs : List V}, Reps W H ds vs → ds.length = vs.length
  | _, _, .nil => rfl
  | _, _, .cons _ r => by simp [Reps.length r]
theorem Reps.get {W : Wd} {H : Hp} : ∀ {ds : List D} {vs : List V} {i : Nat} {d : D}, Reps W H ds vs → ds[i]? = some d → ∃ v, vs[i]? = some v ∧ Rep W H d v
  | _, _, _, _, .nil, h => by simp at h
  | _, _, 0, _, .cons r _, h => by simp at h; subst h; exact ⟨_, rfl, r⟩
  | _, _, i + 1, _, .cons _ t, h => by
    obtain ⟨v, h1, h2⟩ := Reps.get (i := i) t (by simpa using h)
    exact ⟨v, by simpa using h1, h2⟩
theorem Reps.append {W : Wd} {H : Hp} : ∀ {as bs : List D} {vs ws : List V}, Reps W H as vs → Reps W H bs ws → Reps W H (as ++ bs) (vs ++ ws)
  | _, _, _, _, .nil, s => s
  | _, _, _, _, .cons h r, s => .cons h (Reps.append r s)
theorem Reps.take {W : Wd} {H : Hp} : ∀ {as : List D} {vs : List V} (n : Nat), Reps W H as vs → Reps W H (as.take n) (vs.take n)
  | _, _, 0, _ => .nil
  | _, _, _ + 1, .nil => .nil
  | _, _, n + 1, .cons h r => .cons h (Reps.take n r)
theorem Reps.drop {W : Wd} {H : Hp} : ∀ {as : List D} {vs : List V} (n : Nat), Reps W H as vs → Reps W H (as.drop n) (vs.drop n)
  | _, _, 0, r => r
  | _, _, _ + 1, .nil => .nil
  | _, _, n + 1, .cons _ r => Reps.drop n r
theorem Reps.reverse {W : Wd} {H : Hp} : ∀ {as : List D} {vs : List V}, Reps W H as vs → Reps W H as.reverse vs.reverse
  | _, _, .nil => .nil
  | _, _, .cons h r => by simp only [List.reverse_cons]; exact (Reps.reverse r).append (.cons h .nil)

mutual
inductive Own (W : Wd) (H : Hp) : T → V → List Addr → Prop where
  | fr {d : D} {v : V} : Rep W H d v → Own W H (.fr d) v []
  | lst {ts : List T} {a : Addr} {vs : List V} {fp : List Addr} : H a = some (.lst vs) → Owns W H ts vs fp → Own W H (.lst ts) (.ref a) (a :: fp)
  | dic {ks : List Key} {ts : List T} {a : Addr} {vs : List V} {fp : List Addr} : H a = some (.dK (ks.zip vs)) → Owns W H ts vs fp → ks.length = vs.length → Own W H (.dic ks ts) (.ref a) (a :: fp)
  | ins {c : Nat} {ts : List T} {a dx : Addr} {vs : List V} {fp : List Addr} : H a = some (.ins (W.cA c) dx ((W.fl c).zip vs)) → Owns W H ts vs fp → vs.length ≤ (W.fl c).length → Own W H (.ins c ts) (.ref a) (a :: fp)
inductive Owns (W : Wd) (H : Hp) : List T → List V → List Addr → Prop where
  | nil : Owns W H [] [] []
  | cons {t : T} {v : V} {ts : List T} {vs : List V} {fp fps : List Addr} : Own W H t v fp → Owns W H ts vs fps → Owns W H (t :: ts) (v :: vs) (fp ++ fps)
end
mutual
/-- the own objects stand as they stood -/
theorem Own.ext {W : Wd} {H H' : Hp} (e : Ext H H') : ∀ {t : T} {v : V} {fp : List Addr}, Own W H t v fp → (∀ a ∈ fp, H' a = H a) → Own W H' t v fp
  | _, _, _, .fr r, _ => .fr (r.ext e)
  | _, _, _, .lst h r, k => .lst ((k _ (by simp)).trans h) (Owns.ext e r fun a m => k a (by simp [m]))
  | _, _, _, .dic h r l, k => .dic ((k _ (by simp)).trans h) (Owns.ext e r fun a m => k a (by simp [m])) l
  | _, _, _, .ins h r l, k => .ins ((k _ (by simp)).trans h) (Owns.ext e r fun a m => k a (by simp [m])) l
theorem Owns.ext {W : Wd} {H H' : Hp} (e : Ext H H') : ∀ {ts : List T} {vs : List V} {fp : List Addr}, Owns W H ts vs fp → (∀ a ∈ fp, H' a = H a) → Owns W H' ts vs fp
  | _, _, _, .nil, _ => .nil
  | _, _, _, .cons h r, k => .cons (Own.ext e h fun a m => k a (by simp [m])) (Owns.ext e r fun a m => k a (by simp [m]))
end
theorem Owns.length {W : Wd} {H : Hp} : ∀ {ts : List T} {vs : List V} {fp : List Addr}, Owns W H ts vs fp → ts.length = vs.length
  | _, _, _, .nil => rfl
  | _, _, _, .cons _ r => by simp [Owns.length r]
theorem Reps.owns {W : Wd} {H : Hp} : ∀ {ds : List D} {vs : List V}, Reps W H ds vs → Owns W H (ds.map T.fr) vs []
  | _, _, .nil => .nil
  | _, _, .cons h r => by
    have := Owns.cons (Own.fr h) (Reps.owns r)
    simpa using this
/-- an own object stands at a footprint's place -/
def Live (H : Hp) (a : Addr) : Prop := (∃ vs, H a = some (.lst vs)) ∨ (∃ kvs, H a = some (.dK kvs)) ∨ ∃ C dx fs, H a = some (.ins C dx fs)
mutual
theorem Own.live {W : Wd} {H : Hp} : ∀ {t : T} {v : V} {fp : List Addr}, Own W H t v fp → ∀ a ∈ fp, Live H a
  | _, _, _, .fr _, a, m => by cases m
  | _, _, _, .lst h r, a, m => by
    rcases List.mem_cons.mp m with rfl | m
    · exact .inl ⟨_, h⟩
    · exact Owns.live r a m
  | _, _, _, .dic h r _, a, m => by
    rcases List.mem_cons.mp m with rfl | m
    · exact .inr (.inl ⟨_, h⟩)
    · exact Owns.live r a m
  | _, _, _, .ins h r _, a, m => by
    rcases List.mem_cons.mp m with rfl | m
    · exact .inr (.inr ⟨_, _, _, h⟩)
    · exact Owns.live r a m
theorem Owns.live {W : Wd} {H : Hp} : ∀ {ts : List T} {vs : List V} {fp : List Addr}, Owns W H ts vs fp → ∀ a ∈ fp, Live H a
  | _, _, _, .nil, a, m => by cases m
  | _, _, _, .cons h r, a, m => by
    rcases List.mem_append.mp m with m | m
    · exact Own.live h a m
    · exact Owns.live r a m
end
theorem Live.mut {H : Hp} {a : Addr} (l : Live H a) : Mut (H a) := by
  rcases l with ⟨_, h⟩ | ⟨_, h⟩ | ⟨_, _, _, h⟩ <;> rw [h] <;> exact True.intro
theorem Live.some {H : Hp} {a : Addr} (l : Live H a) : ∃ u, H a = some u ∧ Mut (some u) := by
  rcases l with ⟨_, h⟩ | ⟨_, h⟩ | ⟨_, _, _, h⟩ <;> exact ⟨_, h, True.intro⟩
/-- writing at a live place keeps what never changes -/
theorem Ext.upd {H : Hp} {a : Addr} {o : HO} (l : Live H a) : Ext H (upd H a o) := by
  refine ⟨fun b ob h z => ?_⟩
  rw [upd_ne]; exact h
  rintro rfl
  rcases l with ⟨_, e⟩ | ⟨_, e⟩ | ⟨_, _, _, e⟩ <;> rw [h] at e <;> cases e <;> exact z
theorem Ext.new {H : Hp} {a : Addr} {o : HO} (h : H a = none) : Ext H (L2.upd H a o) :=
  ⟨fun b ob e _ => by rw [upd_ne (ne_of_none e h)]; exact e⟩

section
variable {X : Cx} {pins : List (Addr × Obj)} {σ : L2.St} {s : Shared} {W : Wd}
mutual
/-- an own tree is locked, from its leaves -/
theorem freeze : ∀ {t : T} {v : V} {fp : List Addr} {H : Hp}, Inv X pins σ H s → Own W H t v fp → fp.Nodup →
    ∃ H', Inv X pins σ H' s ∧ Ext H H' ∧ Rep W H' t.toD v ∧ (∀ a, a ∉ fp → H' a = H a) ∧ ∀ a, H a ≠ none → H' a ≠ none
  | .fr d, v, _, H, I, .fr r, _ => ⟨H, I, Ext.refl H, by simpa [T.toD] using r, fun _ _ => rfl, fun _ h => h⟩
  | .lst ts, _, _, H, I, .lst (a := a) (vs := vs) h r, nd => by
    obtain ⟨na, nd⟩ := List.nodup_cons.mp nd
    obtain ⟨H1, I1, e1, r1, k1, d1⟩ := freezes I r nd
    have h1 : H1 a = some (.lst vs) := (k1 a na).trans h
    obtain ⟨o, I2⟩ := I1.lock h1 True.intro
    have e2 : Ext H1 (L2.upd H1 a (.frz o (.lst vs))) := Ext.upd (.inl ⟨_, h1⟩)
    refine ⟨_, I2, e1.trans e2, by rw [T.toD]; exact .lst (.inl ⟨o, upd_same⟩) (r1.ext e2), fun b hb => ?_, fun b hb => ?_⟩
    · rw [upd_ne (fun z => hb (by simp [z])), k1 b (fun z => hb (by simp [z]))]
    · by_cases z : b = a
      · rw [z, upd_same]; exact fun z => nomatch z
      · rw [upd_ne z]; exact d1 b hb
  | .dic ks ts, _, _, H, I, .dic (a := a) (vs := vs) h r l, nd => by
    obtain ⟨na, nd⟩ := List.nodup_cons.mp nd
    obtain ⟨H1, I1, e1, r1, k1, d1⟩ := freezes I r nd
    have h1 : H1 a = some (.dK (ks.zip vs)) := (k1 a na).trans h
    obtain ⟨o, I2⟩ := I1.lock h1 True.intro
    have e2 : Ext H1 (L2.upd H1 a (.frz o (.dK (ks.zip vs)))) := Ext.upd (.inr (.inl ⟨_, h1⟩))
    refine ⟨_, I2, e1.trans e2, by rw [T.toD]; exact .dic ⟨o, upd_same⟩ (r1.ext e2) l, fun b hb => ?_, fun b hb => ?_⟩
    · rw [upd_ne (fun z => hb (by simp [z])), k1 b (fun z => hb (by simp [z]))]
    · by_cases z : b = a
      · rw [z, upd_same]; exact fun z => nomatch z
      · rw [upd_ne z]; exact d1 b hb
  | .ins c ts, _, _, H, I, .ins (a := a) (dx := dx) (vs := vs) h r l, nd => by
    obtain ⟨na, nd⟩ := List.nodup_cons.mp nd
    obtain ⟨H1, I1, e1, r1, k1, d1⟩ := freezes I r nd
    have h1 : H1 a = some (.ins (W.cA c) dx ((W.fl c).zip vs)) := (k1 a na).trans h
    obtain ⟨o, I2⟩ := I1.lock h1 True.intro
    have e2 : Ext H1 (L2.upd H1 a (.frz o (.ins (W.cA c) dx ((W.fl c).zip vs)))) := Ext.upd (.inr (.inr ⟨_, _, _, h1⟩))
    refine ⟨_, I2, e1.trans e2, by rw [T.toD]; exact .ins ⟨o, upd_same⟩ (r1.ext e2) l, fun b hb => ?_, fun b hb => ?_⟩
    · rw [upd_ne (fun z => hb (by simp [z])), k1 b (fun z => hb (by simp [z]))]
    · by_cases z : b = a
      · rw [z, upd_same]; exact fun z => nomatch z
      · rw [upd_ne z]; exact d1 b hb
theorem freezes : ∀ {ts : List T} {vs : List V} {fp : List Addr} {H : Hp}, Inv X pins σ H s → Owns W H ts vs fp → fp.Nodup →
    ∃ H', Inv X pins σ H' s ∧ Ext H H' ∧ Reps W H' (T.toDs ts) vs ∧ (∀ a, a ∉ fp → H' a = H a) ∧ ∀ a, H a ≠ none → H' a ≠ none
  | [], _, _, H, I, .nil, _ => ⟨H, I, Ext.refl H, by simpa [T.toDs] using .nil, fun _ _ => rfl, fun _ h => h⟩
  | t :: ts, _, _, H, I, .cons (fp := fp) (fps := fps) h r, nd => by
    obtain ⟨n1, n2, n3⟩ := List.nodup_append.mp nd
    obtain ⟨H1, I1, e1, r1, k1, d1⟩ := freeze I h n1
    obtain ⟨H2, I2, e2, r2, k2, d2⟩ := freezes I1 (r.ext e1 fun a m => k1 a fun z => n3 a z a m rfl) n2
    refine ⟨H2, I2, e1.trans e2, by rw [T.toDs]; exact .cons (r1.ext e2) r2, fun b hb => ?_, fun b hb => d2 b (d1 b hb)⟩
    rw [k2 b (fun z => hb (by simp [z])), k1 b (fun z => hb (by simp [z]))]
end
end
end Eg
set_option Elab.async false
set_option linter.all false
set_option maxRecDepth 100000
set_option maxHeartbeats 4000000
/-! the engine: the small language and its evaluator -/
namespace Eg
open PySem PySem.Spec PyProof.Rows L2

/-- built-in functions on values -/
inductive Bi where
  | len | int | abs | list | tuple | repr | any | all | sum | max2 | min2 | str | sorted | max1
  | split | join | upper | index | get
  deriving DecidableEq

inductive Tg where
  | nm (i : Nat)
  | tp (ts : List Tg)

mutual
inductive Ex where
  | none
  | var (i : Nat)
  | cst (d : D)
  | bin (op : Operator) (a b : Ex)
  | neg (a : Ex)
  | not (a : Ex)
  | cmp (op : CmpOp) (a b : Ex)
  | chain (op op' : CmpOp) (a b c : Ex)
  | and (a b : Ex)
  | or (a b : Ex)
  | ite (c : Cn) (a b : Ex)
  | tup (xs : Exs)
  | lst (xs : Exs)
  | dic (ks : List Key) (vs : Exs)
  | dicS (base k v : Ex)
  | call (f : Nat) (xs : Exs)
  | make (c : Nat) (xs : Exs)
  | mkexc (c : Nat) (a : Ex)
  | bi (b : Bi) (xs : Exs)
  | isi (a : Ex) (c : Nat ⊕ String)
  | fld (a : Ex) (n : Nat)
  | meth (a : Ex) (n : Nat) (xs : Exs)
  | ix (a i : Ex)
  | sl (a lo hi : Ex)
  | rev (a : Ex)
  | pop (i : Nat) (a : Ex)
  | fstr (xs : Exs)
  | lrng (it : It)
  | comp (elt : Ex) (tg : Tg) (it : It) (cond : Cn) (own : List Nat)
inductive Exs where
  | nil
  | cons (star : Bool) (e : Ex) (r : Exs)
inductive It where
  | seq (e : Ex)
  | rng1 (a : Ex)
  | rng2 (a b : Ex)
  | enum (e : Ex)
  | zip2 (a b : Ex)
  | zip3 (a b c : Ex)
  | items (e : Ex)
inductive Cn where
  | tt
  | ex (e : Ex)
  | not (c : Cn)
  | and (a b : Cn)
  | or (a b : Cn)
end

mutual
inductive St where
  | asg (i : Nat) (e : Ex)
  | asgT (tg : Tg) (e : Ex)
  | par (is : List Nat) (es : Exs)
  | asgI (i : Nat) (ix e : Ex)
  | asgF (i : Nat) (n : Nat) (e : Ex)
  | expr (e : Ex)
  | app (i : Nat) (e : Ex)
  | ext (i : Nat) (e : Ex)
  | ret (e : Ex)
  | ifs (c : Cn) (a b : Sts)
  | for_ (tg : Tg) (it : It) (body : Sts)
  | while_ (c : Cn) (body : Sts)
  | raise (c : Nat) (e : Ex)
  | brk | cnt | pass
inductive Sts where
  | nil
  | cons (s : St) (r : Sts)
end

/-- a slot -/
inductive Sl where
  | unb
  | val (d : D)
  | own (t : T)
  deriving Inhabited
abbrev Env := List Sl

inductive Out (α : Type) where
  | ok (a : α) (ρ : Env)
  | exc (d : D) (ρ : Env)
  | bad
def Out.bind {α β : Type} : Out α → (α → Env → Out β) → Out β
  | .ok a ρ, f => f a ρ
  | .exc d ρ, _ => .exc d ρ
  | .bad, _ => .bad
def Out.of {α : Type} (ρ : Env) : Option α → Out α
  | some a => .ok a ρ
  | none => .bad

def Out.of' {α : Type} (a : α) : Option Env → Out α
  | some ρ => .ok a ρ
  | none => .bad
def Out.ofX {α : Type} (d : D) : Option Env → Out α
  | some ρ => .exc d ρ
  | none => .bad

/-- what a def comes to: its value, its parameters' slots at the end -/
inductive OutF where
  | ret (t : T) (fin : Env)
  | exc (d : D) (fin : Env)
  | bad

/-- what the classes tell: a field's place, a property's def, a method's def, __init__'s def, subclasses -/
structure Stat where
  nC : Nat
  isX : Nat → Bool
  fld : Nat → Nat → Option Nat
  prop : Nat → Nat → Option Nat
  meth : Nat → Nat → Option Nat
  init : Nat → Option Nat
  sub : Nat → Nat → Bool
  subB : Nat → String → Bool

/-! ### values -/
def fits (n : Nat) : Bool := decide (n ≤ 16777216)
def D.truth : D → Option Bool
  | .non => some false
  | .bl b => some b
  | .int i => some (i != 0)
  | .str s => if fits s.length then some (decide (s.length ≠ 0)) else none
  | .tup xs => some (!xs.isEmpty)
  | .lst xs => some (!xs.isEmpty)
  | _ => none
def keyPy : Key → PyData
  | .inl i => .int i
  | .inr s => .str s
mutual
/-- plain data as the library has it -/
def D.py : D → PyData
  | .non => .none
  | .bl b => .bool b
  | .int i => .int i
  | .str s => .str s
  | .tup xs => .tuple (D.pys xs)
  | .lst xs => .list (D.pys xs)
  | .dic ks vs => .dict (D.pyKv ks vs)
  | _ => .none
def D.pys : List D → List PyData
  | [] => []
  | x :: xs => D.py x :: D.pys xs
def D.pyKv : List Key → List D → List (PyData × PyData)
  | k :: ks, v :: vs => (keyPy k, D.py v) :: D.pyKv ks vs
  | _, _ => []
end
mutual
/-- no instance within -/
def D.plainO : D → Bool
  | .tup xs => D.plainOs xs
  | .lst xs => D.plainOs xs
  | .dic _ vs => D.plainOs vs
  | .ins _ _ => false
  | .exc _ _ => false
  | _ => true
def D.plainOs : List D → Bool
  | [] => true
  | x :: xs => D.plainO x && D.plainOs xs
end
/-- repr -/
def reprD (x : D) : Option Str :=
  if x.plainO && x.py.showable && decide (x.py.depth ≤ 200) && decide (x.py.shown.length ≤ 16777216) then some x.py.shown else none
def strOkB (s : Str) : Bool := PyData.strOk s
mutual
/-- data whose == is plain, to a depth -/
def D.plain : Nat → D → Bool
  | _, .non => true
  | _, .bl _ => true
  | _, .int _ => true
  | _, .str s => strOkB s
  | n + 1, .tup xs => D.plains n xs
  | n + 1, .lst xs => D.plains n xs
  | _, _ => false
def D.plains : Nat → List D → Bool
  | _, [] => true
  | n, x :: xs => D.plain n x && D.plains n xs
end
/-- == -/
def D.eqv (x y : D) : Bool := PyData.eqv x.py y.py
def D.items : D → Option (List D)
  | .lst xs => some xs
  | .tup xs => some xs
  | _ => none
def strD (s : Str) : List D := s.cps.toList.map fun c => .str ⟨#[c]⟩

def mulOk (i j : Int) : Bool := decide (i.natAbs.log2 + j.natAbs.log2 < 1000000)
def divOk (j : Int) : Bool := decide (j ≠ 0) && decide (j.natAbs.log2 < 9000)
def powOk (i j : Int) : Bool := decide (0 ≤ j) && decide (((Builtin.Int.intBits i : Nat) : Int) * j ≤ 134217728)
def binD (op : Operator) (x y : D) : Option T :=
  match op, x, y with
  | .Add, .int i, .int j => some (.fr (.int (i + j)))
  | .Add, .str i, .str j => if fits (i.length + j.length) then some (.fr (.str (i ++ j))) else none
  | .Add, .lst xs, .lst ys => if fits (xs.length + ys.length) then some (.lst ((xs ++ ys).map .fr)) else none
  | .Add, .tup xs, .tup ys => if fits (xs.length + ys.length) then some (.fr (.tup (xs ++ ys))) else none
  | .Sub, .int i, .int j => some (.fr (.int (i - j)))
  | .Mult, .int i, .int j => if mulOk i j then some (.fr (.int (i * j))) else none
  | .FloorDiv, .int i, .int j => if divOk j then some (.fr (.int (i.fdiv j))) else none
  | .Mod, .int i, .int j => if j ≠ 0 then some (.fr (.int (i.fmod j))) else none
  | .Pow, .int i, .int j => if powOk i j then some (.fr (.int (i ^ j.toNat))) else none
  | _, _, _ => none
def keyOfD : D → Option Key
  | .int i => some (.inl i)
  | .str s => some (.inr s)
  | _ => none
/-- plain data of one piece -/
def D.flat : D → Bool
  | .non => true
  | .bl _ => true
  | .int _ => true
  | .str _ => true
  | _ => false
def D.scal : D → D → Bool
  | .bl _, .int _ => false
  | .int _, .bl _ => false
  | x, y => x.flat && y.flat
def eqD (x y : D) : Option Bool :=
  if D.scal x y || (D.plain 20 x && D.plain 20 y) then some (D.eqv x y) else none
/-- x in y -/
def inD (x y : D) : Option Bool :=
  match y with
  | .lst ys => if (x.flat && ys.all D.flat) || (D.plain 20 x && D.plains 20 ys) then some (ys.any fun z => D.eqv z x) else none
  | .tup ys => if (x.flat && ys.all D.flat) || (D.plain 20 x && D.plains 20 ys) then some (ys.any fun z => D.eqv z x) else none
  | .str z => match x with
    | .str c => if c.length = 1 then some (decide (c.cps.toList.getD 0 0 ∈ z.cps.toList)) else none
    | _ => none
  | _ => none
def cmpD (op : CmpOp) (x y : D) : Option Bool :=
  match op with
  | .Lt => match x, y with
    | .int i, .int j => some (decide (i < j))
    | _, _ => none
  | .LtE => match x, y with
    | .int i, .int j => some (decide (i ≤ j))
    | _, _ => none
  | .Gt => match x, y with
    | .int i, .int j => some (decide (j < i))
    | _, _ => none
  | .GtE => match x, y with
    | .int i, .int j => some (decide (j ≤ i))
    | _, _ => none
  | .Eq => eqD x y
  | .NotEq => (eqD x y).map (!·)
  | .Is => match y with
    | .non => some (match x with
      | .non => true
      | _ => false)
    | _ => none
  | .IsNot => match y with
    | .non => some (match x with
      | .non => false
      | _ => true)
    | _ => none
  | .In => inD x y
  | .NotIn => (inD x y).map (!·)

/-- a built-in type's name -/
def D.ty : D → String
  | .non => "NoneType"
  | .bl _ => "bool"
  | .int _ => "int"
  | .str _ => "str"
  | .tup _ => "tuple"
  | .lst _ => "list"
  | .dic _ _ => "dict"
  | _ => ""
def tyNs : List String := ["NoneType", "bool", "int", "str", "tuple", "list", "dict"]
def tgNs : List String := ["bool", "int", "str", "tuple", "list", "dict", "ValueError"]
def isTy (t s : String) : Bool := t == s || (t == "bool" && s == "int")
def isOwn (S : Stat) (k : Nat) : Nat ⊕ String → Option Bool
  | .inl j => if j < S.nC then some (S.sub k j) else none
  | .inr s => if tgNs.contains s then some (S.subB k s) else none
def isBlt (S : Stat) (t : String) : Nat ⊕ String → Option Bool
  | .inl j => if j < S.nC then some false else none
  | .inr s => if tgNs.contains s then some (isTy t s) else none
/-- isinstance -/
def isiD (S : Stat) (d : D) (c : Nat ⊕ String) : Option Bool :=
  match d with
  | .ins k _ => if decide (k < S.nC) && !S.isX k then isOwn S k c else none
  | .exc k _ => if decide (k < S.nC) && S.isX k then isOwn S k c else none
  | d => isBlt S d.ty c

/-! ### built-in functions on values -/
def allB : List D → Option Bool
  | [] => some true
  | .bl b :: r => (allB r).map (b && ·)
  | _ :: _ => none
def anyB : List D → Option Bool
  | [] => some false
  | .bl b :: r => (anyB r).map (b || ·)
  | _ :: _ => none
def sumI : List D → Option Int
  | [] => some 0
  | .int i :: r => (sumI r).map (i + ·)
  | _ :: _ => none
/-- an item at a place that may count from the end -/
def atD (xs : List D) (i : Int) : Option D := L2.atI xs i
def lenD : D → Option Nat
  | .str s => if fits s.length then some s.length else none
  | .tup xs => some xs.length
  | .lst xs => some xs.length
  | _ => none
def biD (R : D → Option Str) : Bi → List D → Option T
  | .len, [x] => (lenD x).map fun (n : Nat) => .fr (.int (n : Int))
  | .int, [.int i] => some (.fr (.int i))
  | .int, [.bl b] => some (.fr (.int (if b then 1 else 0)))
  | .abs, [.int i] => some (.fr (.int (if i < 0 then -i else i)))
  | .list, [x] => x.items.map fun xs => .lst (xs.map .fr)
  | .tuple, [x] => x.items.map fun xs => .fr (.tup xs)
  | .repr, [x] => (R x).map fun s => .fr (.str s)
  | .all, [.lst xs] => (allB xs).map fun b => .fr (.bl b)
  | .any, [.lst xs] => (anyB xs).map fun b => .fr (.bl b)
  | .sum, [.lst xs] => (sumI xs).map fun i => .fr (.int i)
  | .max2, [.int i, .int j] => some (.fr (.int (if j > i then j else i)))
  | .min2, [.int i, .int j] => some (.fr (.int (if j < i then j else i)))
  | _, _ => none
def keyAt {α : Type} : List Key → List α → Key → Option α
  | j :: ks, a :: as, k => if j = k then some a else keyAt ks as k
  | _, _, _ => none
def ixD (x i : D) : Option D :=
  match x, i with
  | .lst xs, .int i => atD xs i
  | .tup xs, .int i => atD xs i
  | .str s, .int i => if fits s.length then (L2.atI s.cps.toList i).map fun c => .str ⟨#[c]⟩ else none
  | .dic ks vs, k => (keyOfD k).bind fun k => keyAt ks vs k
  | _, _ => none
/-- the same of an own tree: its item is frozen -/
def ixT (t : T) (i : D) : Option D :=
  match t, i with
  | .fr x, i => ixD x i
  | .lst ts, .int i => match L2.atI ts i with
    | some (.fr d) => some d
    | _ => none
  | .dic ks ts, k => match (keyOfD k).bind fun k => keyAt ks ts k with
    | some (.fr d) => some d
    | _ => none
  | _, _ => none
def slD (x : D) (lo hi : Option Int) : Option T := match x with
  | .lst xs => some (.lst (((xs.drop (HT.sIx xs.length 0 lo)).take (HT.sIx xs.length xs.length hi - HT.sIx xs.length 0 lo)).map .fr))
  | .tup xs => some (.fr (.tup ((xs.drop (HT.sIx xs.length 0 lo)).take (HT.sIx xs.length xs.length hi - HT.sIx xs.length 0 lo))))
  | _ => none

/-- an own thing seen as data, for a look: its parts are frozen -/
def frs : List T → Option (List D)
  | [] => some []
  | .fr d :: r => (frs r).map (d :: ·)
  | _ :: _ => none
def T.shal : T → Option D
  | .fr d => some d
  | .lst ts => (frs ts).map .lst
  | .dic ks ts => (frs ts).map (.dic ks)
  | .ins c ts => (frs ts).map (.ins c)
theorem frs_map : ∀ ds : List D, frs (ds.map T.fr) = some ds
  | [] => rfl
  | d :: ds => by simp [frs, frs_map ds]

/-! ### arguments -/
inductive Ar where
  | tm (t : T)
  | io (i : Nat)
/-- the arguments' slots, and where the one that is own stands (its place; the caller's slot, if it is one) -/
def arSl (ρ : Env) : List Ar → Option (Env × Option (Nat × Option Nat))
  | [] => some ([], none)
  | .tm t :: r => match t, arSl ρ r with
    | .fr d, some (ss, o) => some (.val d :: ss, o.map fun p => (p.1 + 1, p.2))
    | t, some (ss, none) => some (.own t :: ss, some (0, none))
    | _, _ => none
  | .io i :: r => match ρ[i]?, arSl ρ r with
    | some (.own t), some (ss, none) => some (.own t :: ss, some (0, some i))
    | some (.val d), some (ss, o) => some (.val d :: ss, o.map fun p => (p.1 + 1, p.2))
    | _, _ => none
/-- what the call left of the caller's own thing -/
def backAr (ρ : Env) (fin : Env) : Option (Nat × Option Nat) → Option Env
  | some (p, some i) => (fin[p]?).map fun s => ρ.set i s
  | _ => some ρ
def slKeep (keep : Bool) (t : T) : Sl := if keep then .own t else .val t.toD

section
variable (S : Stat) (R : D → Option Str) (F : Nat → Env → OutF)
def callF (f : Nat) (xs : List Ar) (ρ : Env) : Out T :=
  match arSl ρ xs with
  | some (args, o) => match F f args with
    | .ret t fin => Out.of' t (backAr ρ fin o)
    | .exc d fin => Out.ofX d (backAr ρ fin o)
    | .bad => .bad
  | none => .bad
/-- C(..): the new instance is the first argument -/
def makeF (c : Nat) (xs : List Ar) (ρ : Env) : Out T :=
  match S.init c, arSl ρ xs with
  | some f, some (args, o) => match F f (.own (.ins c []) :: args) with
    | .ret (.fr .non) (.own t :: fin) => Out.of' t (backAr ρ fin o)
    | .exc d (_ :: fin) => Out.ofX d (backAr ρ fin o)
    | _ => .bad
  | _, _ => .bad
def freezeO : Out T → Out D
  | .ok t ρ => .ok t.toD ρ
  | .exc d ρ => .exc d ρ
  | .bad => .bad
mutual
def asgTg : Tg → D → Env → Option Env
  | .nm i, d, ρ => if i < ρ.length then some (ρ.set i (.val d)) else none
  | .tp ts, d, ρ => match d with
    | .tup ds => asgTgs ts ds ρ
    | _ => none
def asgTgs : List Tg → List D → Env → Option Env
  | [], [], ρ => some ρ
  | t :: ts, d :: ds, ρ => (asgTg t d ρ).bind fun ρ => asgTgs ts ds ρ
  | _, _, _ => none
end
def wipeE (ρ : Env) : List Nat → Env
  | [] => ρ
  | k :: ks => (wipeE ρ ks).set k .unb
/-- a comprehension's turns -/
def compGo (own : List Nat) (tg : Tg) (cond : Env → Out Bool) (elt : Env → Out D) : List D → Env → List D → Out (List D)
  | [], ρ, acc => .ok acc ρ
  | x :: xs, ρ, acc => match asgTg tg x (wipeE ρ own) with
    | none => .bad
    | some ρ => match cond ρ with
      | .ok true ρ => match elt ρ with
        | .ok d ρ => compGo own tg cond elt xs ρ (acc ++ [d])
        | _ => .bad
      | .ok false ρ => compGo own tg cond elt xs ρ acc
      | _ => .bad
/-- the block's own names are as they were ahead -/
def backE (ρ0 ρ : Env) : List Nat → Env
  | [] => ρ
  | k :: ks => backE ρ0 (ρ.set k (ρ0[k]?.getD .unb)) ks
def noOwn (ρ : Env) (ks : List Nat) : Bool := ks.all fun k => match ρ[k]? with
  | some (.own _) => false
  | _ => true
mutual
/-- the names of a target are among these -/
def Tg.within (ks : List Nat) : Tg → Bool
  | .nm i => ks.contains i
  | .tp ts => Tg.withins ks ts
def Tg.withins (ks : List Nat) : List Tg → Bool
  | [] => true
  | t :: ts => Tg.within ks t && Tg.withins ks ts
end
def rangeD (lo hi : Int) : List D := (List.range (hi - lo).toNat).map fun (k : Nat) => .int (lo + (k : Int))
def okRange (i : Int) : Bool := decide (-(2 ^ 62) ≤ i) && decide (i < 2 ^ 62)
def enumD (xs : List D) : List D := xs.zipIdx.map fun p => .tup [.int p.2, p.1]

/-! what an expression's own form asks: a name is looked at where it stands -/
def varOf : Ex → Option Nat
  | .var i => some i
  | _ => none
def lookV (ρ : Env) (i : Nat) : Out T := match ρ[i]? with
  | some (.val d) => .ok (.fr d) ρ
  | some (.own t) => .ok t ρ
  | _ => .bad
def lookO (e : Ex) (ρ : Env) (r : Out T) : Out T := match varOf e with
  | some i => lookV ρ i
  | none => (freezeO r).bind fun d ρ => .ok (.fr d) ρ
def boundS (ρ : Env) (i : Nat) : Bool := match ρ[i]? with
  | some (.val _) => true
  | some (.own _) => true
  | _ => false
def ixS (s : Option Sl) (y : D) : Option T := match s with
  | some (.val d) => (ixD d y).map .fr
  | some (.own t) => (t.shal.bind fun x => ixD x y).map .fr
  | _ => none
def slS (s : Option Sl) (l h : Option Int) : Option T := match s with
  | some (.val d) => slD d l h
  | some (.own t) => t.shal.bind fun x => slD x l h
  | _ => none
def propT (c n : Nat) (d : D) (ρ : Env) : Out T := match S.prop c n with
  | some f => match F f [.val d] with
    | .ret t _ => .ok t ρ
    | _ => .bad
  | none => .bad
def fldT (x : T) (n : Nat) (ρ : Env) : Out T := match x with
  | .fr (.ins c ds) => match S.fld c n with
    | some k => match ds[k]? with
      | some d => .ok (.fr d) ρ
      | none => .bad
    | none => propT S F c n (.ins c ds) ρ
  | .fr (.exc c d) => if n = 0 && S.isX c && decide (c < S.nC) then .ok (.fr d) ρ else .bad
  | .ins c ts => match S.fld c n with
    | some k => match ts[k]? with
      | some (.fr d) => .ok (.fr d) ρ
      | _ => .bad
    | none => .bad
  | _ => .bad
def methC (x : T) (n : Nat) : Option Nat := match x with
  | .fr (.ins c _) => S.meth c n
  | .ins c _ => S.meth c n
  | _ => none
def bindI {α : Type} (o : Out D) (f : Int → Env → Out α) : Out α := o.bind fun d ρ => match d with
  | .int i => f i ρ
  | _ => .bad
def noneE : Ex → Bool
  | .none => true
  | _ => false
/-- a slice's part -/
def partO (e : Ex) (ρ : Env) (r : Out T) : Out (Option Int) := if noneE e then .ok none ρ else bindI (freezeO r) fun i ρ => .ok (some i) ρ
def popT (ρ : Env) (i : Nat) (k : Int) : Out T := match ρ[i]? with
  | some (.own (.lst ts)) => match L2.ixN ts.length k with
    | some j => match ts[j]? with
      | some (.fr d) => if okRange k then .ok (.fr d) (ρ.set i (.own (.lst (ts.eraseIdx j)))) else .bad
      | _ => .bad
    | none => .bad
  | _ => .bad
def lstD : D → Option (List D)
  | .lst xs => some xs
  | _ => none
def seqD : D → Option (List D)
  | .lst xs => some xs
  | .tup xs => some xs
  | .str s => some (strD s)
  | _ => none

mutual
/-- a value, frozen or own -/
def evE : Ex → Env → Out T
  | .none, ρ => .ok (.fr .non) ρ
  | .var i, ρ => match ρ[i]? with
    | some (.val d) => .ok (.fr d) ρ
    | some (.own t) => .ok (.fr t.toD) (ρ.set i (.val t.toD))
    | _ => .bad
  | .cst d, ρ => .ok (.fr d) ρ
  | .bin op a b, ρ => (freezeO (evE a ρ)).bind fun x ρ => (freezeO (evE b ρ)).bind fun y ρ => Out.of ρ (binD op x y)
  | .neg a, ρ => bindI (freezeO (evE a ρ)) fun i ρ => .ok (.fr (.int (-i))) ρ
  | .not a, ρ => (freezeO (evE a ρ)).bind fun x ρ => Out.of ρ (x.truth.map fun b => .fr (.bl (!b)))
  | .cmp op a b, ρ => (freezeO (evE a ρ)).bind fun x ρ => (lookO b ρ (evE b ρ)).bind fun y ρ => Out.of ρ ((y.shal.bind fun y => cmpD op x y).map fun b => .fr (.bl b))
  | .chain op op' a b c, ρ => (freezeO (evE a ρ)).bind fun x ρ => (freezeO (evE b ρ)).bind fun y ρ => match cmpD op x y with
    | some true => (freezeO (evE c ρ)).bind fun z ρ => Out.of ρ ((cmpD op' y z).map fun b => .fr (.bl b))
    | some false => .ok (.fr (.bl false)) ρ
    | none => .bad
  | .and a b, ρ => (freezeO (evE a ρ)).bind fun x ρ => match x.truth with
    | some true => evE b ρ
    | some false => .ok (.fr x) ρ
    | none => .bad
  | .or a b, ρ => (freezeO (evE a ρ)).bind fun x ρ => match x.truth with
    | some true => .ok (.fr x) ρ
    | some false => evE b ρ
    | none => .bad
  | .ite c a b, ρ => (evC c ρ).bind fun k ρ => if k then evE a ρ else evE b ρ
  | .tup xs, ρ => (evDs xs ρ).bind fun ds ρ => if fits ds.length then .ok (.fr (.tup ds)) ρ else .bad
  | .lst xs, ρ => (evDs xs ρ).bind fun ds ρ => if fits ds.length then .ok (.lst (ds.map .fr)) ρ else .bad
  | .dic ks vs, ρ => (evDs vs ρ).bind fun ds ρ => if ks.length = ds.length && decide ks.Nodup && decide (ks.length ≤ 15) then .ok (.dic ks (ds.map .fr)) ρ else .bad
  | .dicS _ _ _, _ => .bad
  | .call f xs, ρ => (evAs xs ρ).bind fun as ρ => callF F f as ρ
  | .make c xs, ρ => (evAs xs ρ).bind fun as ρ => makeF S F c as ρ
  | .mkexc c a, ρ => (freezeO (evE a ρ)).bind fun x ρ => .ok (.fr (.exc c x)) ρ
  | .bi b xs, ρ => match xs with
    | .cons false e .nil => (lookO e ρ (evE e ρ)).bind fun x ρ => Out.of ρ (x.shal.bind fun x => biD R b [x])
    | xs => (evDs xs ρ).bind fun ds ρ => Out.of ρ (biD R b ds)
  | .isi a c, ρ => (lookO a ρ (evE a ρ)).bind fun x ρ => Out.of ρ ((x.shal.bind fun x => isiD S x c).map fun b => .fr (.bl b))
  | .fld a n, ρ => (lookO a ρ (evE a ρ)).bind fun x ρ => fldT S F x n ρ
  | .meth a n xs, ρ => match varOf a with
    | some i => (lookV ρ i).bind fun x ρ => match methC S x n with
      | some f => (evAs xs ρ).bind fun as ρ => callF F f (.io i :: as) ρ
      | none => .bad
    | none => (freezeO (evE a ρ)).bind fun x ρ => match methC S (.fr x) n with
      | some f => (evAs xs ρ).bind fun as ρ => callF F f (.tm (.fr x) :: as) ρ
      | none => .bad
  | .ix a i, ρ => match varOf a with
    | some k => if boundS ρ k then (freezeO (evE i ρ)).bind fun y ρ => Out.of ρ (ixS ρ[k]? y) else .bad
    | none => (freezeO (evE a ρ)).bind fun x ρ => (freezeO (evE i ρ)).bind fun y ρ => Out.of ρ ((ixD x y).map .fr)
  | .sl a lo hi, ρ => match varOf a with
    | some k => if boundS ρ k then (partO lo ρ (evE lo ρ)).bind fun l ρ => (partO hi ρ (evE hi ρ)).bind fun h ρ => Out.of ρ (slS ρ[k]? l h) else .bad
    | none => (freezeO (evE a ρ)).bind fun x ρ => (partO lo ρ (evE lo ρ)).bind fun l ρ => (partO hi ρ (evE hi ρ)).bind fun h ρ => Out.of ρ (slD x l h)
  | .rev a, ρ => (freezeO (evE a ρ)).bind fun x ρ => match x with
    | .tup xs => .ok (.fr (.tup xs.reverse)) ρ
    | .lst xs => .ok (.lst (xs.reverse.map .fr)) ρ
    | _ => .bad
  | .pop i a, ρ => bindI (freezeO (evE a ρ)) fun k ρ => popT ρ i k
  | .fstr _, _ => .bad
  | .lrng it, ρ => (evIt it ρ).bind fun xs ρ => if fits xs.length then .ok (.lst (xs.map .fr)) ρ else .bad
  | .comp elt tg it cond own, ρ => (evIt it ρ).bind fun xs ρ => if noOwn ρ own && tg.within own && fits xs.length then (compGo own tg (fun ρ => evC cond ρ) (fun ρ => freezeO (evE elt ρ)) xs ρ []).bind fun ds ρ' => .ok (.lst (ds.map .fr)) (backE ρ (wipeE ρ' own) own) else .bad
def evC : Cn → Env → Out Bool
  | .tt, ρ => .ok true ρ
  | .ex e, ρ => (freezeO (evE e ρ)).bind fun x ρ => Out.of ρ x.truth
  | .not a, ρ => (evC a ρ).bind fun b ρ => .ok (!b) ρ
  | .and a b, ρ => (evC a ρ).bind fun k ρ => if k then evC b ρ else .ok false ρ
  | .or a b, ρ => (evC a ρ).bind fun k ρ => if k then .ok true ρ else evC b ρ
def evDs : Exs → Env → Out (List D)
  | .nil, ρ => .ok [] ρ
  | .cons star e r, ρ => (freezeO (evE e ρ)).bind fun x ρ => (evDs r ρ).bind fun ds ρ =>
    if star then match x.items with
      | some xs => .ok (xs ++ ds) ρ
      | none => .bad
    else .ok (x :: ds) ρ
def evAs : Exs → Env → Out (List Ar)
  | .nil, ρ => .ok [] ρ
  | .cons fz e r, ρ => if fz then (freezeO (evE e ρ)).bind fun d ρ => (evAs r ρ).bind fun as ρ => .ok (.tm (.fr d) :: as) ρ else match varOf e with
    | some i => if boundS ρ i then (evAs r ρ).bind fun as ρ => .ok (.io i :: as) ρ else .bad
    | none => (evE e ρ).bind fun t ρ => (evAs r ρ).bind fun as ρ => .ok (.tm t :: as) ρ
def evIt : It → Env → Out (List D)
  | .seq e, ρ => (freezeO (evE e ρ)).bind fun x ρ => Out.of ρ (seqD x)
  | .rng1 a, ρ => bindI (freezeO (evE a ρ)) fun n ρ => if okRange n then .ok (rangeD 0 n) ρ else .bad
  | .rng2 a b, ρ => bindI (freezeO (evE a ρ)) fun m ρ => bindI (freezeO (evE b ρ)) fun n ρ => if okRange m && okRange n then .ok (rangeD m n) ρ else .bad
  | .enum e, ρ => (freezeO (evE e ρ)).bind fun x ρ => Out.of ρ ((lstD x).map enumD)
  | .zip2 a b, ρ => (freezeO (evE a ρ)).bind fun x ρ => (freezeO (evE b ρ)).bind fun y ρ => match lstD x, lstD y with
    | some xs, some ys => .ok (List.zipWith (fun p q => .tup [p, q]) xs ys) ρ
    | _, _ => .bad
  | .zip3 _ _ _, _ => .bad
  | .items _, _ => .bad
end

/-- what a statement comes to -/
inductive SO where
  | next (ρ : Env)
  | ret (t : T) (ρ : Env)
  | brk (ρ : Env)
  | cnt (ρ : Env)
  | exc (d : D) (ρ : Env)
  | bad
def SO.of {α : Type} (x : Out α) (f : α → Env → SO) : SO :=
  match x with
  | .ok a ρ => f a ρ
  | .exc d ρ => .exc d ρ
  | .bad => .bad
mutual
def Tg.free (io : List Nat) : Tg → Bool
  | .nm i => !io.contains i
  | .tp ts => Tg.frees io ts
def Tg.frees (io : List Nat) : List Tg → Bool
  | [] => true
  | t :: ts => Tg.free io t && Tg.frees io ts
end
def forGo (tg : Tg) (body : Env → SO) : List D → Env → SO
  | [], ρ => .next ρ
  | x :: xs, ρ => match asgTg tg x ρ with
    | none => .bad
    | some ρ => match body ρ with
      | .next ρ => forGo tg body xs ρ
      | .cnt ρ => forGo tg body xs ρ
      | .brk ρ => .next ρ
      | o => o
def whileGo (cond : Env → Out Bool) (body : Env → SO) : Nat → Env → SO
  | 0, _ => .bad
  | n + 1, ρ => match cond ρ with
    | .ok true ρ => match body ρ with
      | .next ρ => whileGo cond body n ρ
      | .cnt ρ => whileGo cond body n ρ
      | .brk ρ => .next ρ
      | o => o
    | .ok false ρ => .next ρ
    | .exc d ρ => .exc d ρ
    | .bad => .bad
/-- a value is stored into a name: as it is, if the name keeps own things, else frozen -/
def store (io kp : List Nat) (i : Nat) (t : T) (ρ : Env) : SO :=
  if !io.contains i && decide (i < ρ.length) then .next (ρ.set i (slKeep (kp.contains i) t)) else .bad
def isLstS : Option Sl → Bool
  | some (.own (.lst _)) => true
  | _ => false
/-- xs.extend(a list just made) -/
def extS (i : Nat) (t : T) (ρ : Env) : SO := match t with
  | .lst us => match ρ[i]?, frs us with
    | some (.own (.lst ts)), some ds => if fits (ts.length + ds.length) then .next (ρ.set i (.own (.lst (ts ++ ds.map .fr)))) else .bad
    | _, _ => .bad
  | _ => .bad
/-- a dict's entry is put -/
def putT (ks : List Key) (ts : List T) (k : Key) (t : T) : List Key × List T :=
  match ks, ts with
  | k' :: ks, t' :: ts => if k' = k then (k' :: ks, t :: ts) else let r := putT ks ts k t; (k' :: r.1, t' :: r.2)
  | _, _ => ([k], [t])
mutual
def evS (n : Nat) (io kp : List Nat) : St → Env → SO
  | .asg i e, ρ => SO.of (evE S R F e ρ) fun t ρ => store io kp i t ρ
  | .asgT tg e, ρ => SO.of (freezeO (evE S R F e ρ)) fun d ρ => if tg.free io then match asgTg tg d ρ with
    | some ρ => .next ρ
    | none => .bad
    else .bad
  | .par is es, ρ => SO.of (evDs S R F es ρ) fun ds ρ => if (is.all fun i => !io.contains i) then match asgTgs (is.map .nm) ds ρ with
    | some ρ => .next ρ
    | none => .bad
    else .bad
  | .asgI i ix e, ρ => SO.of (freezeO (evE S R F e ρ)) fun d ρ => if !isLstS ρ[i]? then .bad else SO.of (freezeO (evE S R F ix ρ)) fun y ρ =>
    match ρ[i]?, y with
    | some (.own (.lst ts)), .int k => match L2.ixN ts.length k with
        | some j => .next (ρ.set i (.own (.lst (ts.set j (.fr d)))))
        | none => .bad
    | _, _ => .bad
  | .asgF i n e, ρ => SO.of (freezeO (evE S R F e ρ)) fun d ρ =>
    match ρ[i]? with
    | some (.own (.ins c ts)) => match S.fld c n with
      | some k => if k < ts.length then .next (ρ.set i (.own (.ins c (ts.set k (.fr d))))) else if k = ts.length then .next (ρ.set i (.own (.ins c (ts ++ [.fr d])))) else .bad
      | none => .bad
    | _ => .bad
  | .expr e, ρ => SO.of (evE S R F e ρ) fun _ ρ => .next ρ
  | .app i e, ρ => if !isLstS ρ[i]? then .bad else SO.of (freezeO (evE S R F e ρ)) fun d ρ =>
    match ρ[i]? with
    | some (.own (.lst ts)) => if ts.length < 16777216 then .next (ρ.set i (.own (.lst (ts ++ [.fr d])))) else .bad
    | _ => .bad
  | .ext i e, ρ => if !isLstS ρ[i]? then .bad else SO.of (evE S R F e ρ) fun t ρ => extS i t ρ
  | .ret e, ρ => match e with
    | .var i => if io.contains i then SO.of (evE S R F (.var i) ρ) fun t ρ => .ret t ρ else match ρ[i]? with
      | some (.own t) => .ret t (ρ.set i .unb)
      | some (.val d) => .ret (.fr d) ρ
      | _ => .bad
    | e => SO.of (evE S R F e ρ) fun t ρ => .ret t ρ
  | .ifs c a b, ρ => SO.of (evC S R F c ρ) fun k ρ => if k then evSs n io kp a ρ else evSs n io kp b ρ
  | .for_ tg it body, ρ => SO.of (evIt S R F it ρ) fun xs ρ => if tg.free io then forGo tg (fun ρ => evSs n io kp body ρ) xs ρ else .bad
  | .while_ c body, ρ => whileGo (fun ρ => evC S R F c ρ) (fun ρ => evSs n io kp body ρ) n ρ
  | .raise c e, ρ => SO.of (freezeO (evE S R F e ρ)) fun d ρ => .exc (.exc c d) ρ
  | .brk, ρ => .brk ρ
  | .cnt, ρ => .cnt ρ
  | .pass, ρ => .next ρ
def evSs (n : Nat) (io kp : List Nat) : Sts → Env → SO
  | .nil, ρ => .next ρ
  | .cons s r, ρ => match evS n io kp s ρ with
    | .next ρ => evSs n io kp r ρ
    | o => o
end
end
/-- a def: parameters, names, the names that keep own things, the body -/
structure Fn where
  np : Nat
  nl : Nat
  kp : List Nat
  body : Sts
def ownsAt : Nat → Env → List Nat
  | _, [] => []
  | k, .own _ :: r => k :: ownsAt (k + 1) r
  | k, _ :: r => ownsAt (k + 1) r
/-- behind the call: of the own arguments what is left of them, the others as they were -/
def finOf : Env → Env → Env
  | .own _ :: as, f :: fs => f :: finOf as fs
  | a :: as, _ :: fs => a :: finOf as fs
  | as, _ => as
def evFn (S : Stat) (R : D → Option Str) (n : Nat) (F : Nat → Env → OutF) (fn : Fn) (args : Env) : OutF :=
  if args.length = fn.np then
    match evSs S R F n (ownsAt 0 args) fn.kp fn.body (args ++ List.replicate (fn.nl - fn.np) .unb) with
    | .ret t ρ => .ret t (finOf args ρ)
    | .next ρ => .ret (.fr .non) (finOf args ρ)
    | .exc d ρ => .exc d (finOf args ρ)
    | _ => .bad
  else .bad
/-- the defs, to a depth -/
def evF (S : Stat) (R : D → Option Str) (n : Nat) (fns : List Fn) : Nat → Nat → Env → OutF
  | 0, _, _ => .bad
  | k + 1, f, args => match fns[f]? with
    | some fn => evFn S R n (evF S R n fns k) fn args
    | none => .bad
end Eg
set_option Elab.async false
set_option linter.all false
set_option maxRecDepth 100000
set_option maxHeartbeats 4000000
/-! the engine: slots, what holds between two steps, the readings -/
namespace Eg
open PySem PySem.Spec PyProof.Rows L2

inductive SlR (W : Wd) (H : Hp) : Sl → Option V → List Addr → Prop where
  | unb {o : Option V} : SlR W H .unb o []
  | val {d : D} {v : V} : Rep W H d v → SlR W H (.val d) (some v) []
  | own {t : T} {v : V} {fp : List Addr} : Own W H t v fp → SlR W H (.own t) (some v) fp
inductive SlRs (W : Wd) (H : Hp) : Env → L2.St → List Addr → Prop where
  | nil : SlRs W H [] [] []
  | cons {s : Sl} {o : Option V} {ρ : Env} {σ : L2.St} {fp fps : List Addr} : SlR W H s o fp → SlRs W H ρ σ fps → SlRs W H (s :: ρ) (o :: σ) (fp ++ fps)
section
variable {W : Wd} {H H' : Hp} {ρ : Env} {σ : L2.St} {fp : List Addr} {s : Sl} {o : Option V}
theorem SlR.live (h : SlR W H s o fp) : ∀ a ∈ fp, Live H a := by
  cases h with
  | unb => intro a m; cases m
  | val _ => intro a m; cases m
  | own h => exact h.live
theorem SlRs.live : ∀ {ρ : Env} {σ : L2.St} {fp : List Addr}, SlRs W H ρ σ fp → ∀ a ∈ fp, Live H a
  | _, _, _, .nil, a, m => by cases m
  | _, _, _, .cons h r, a, m => (List.mem_append.mp m).elim (SlR.live h a) (SlRs.live r a)
theorem SlR.ext (h : SlR W H s o fp) (e : Ext H H') (k : ∀ a ∈ fp, H' a = H a) : SlR W H' s o fp := by
  cases h with
  | unb => exact .unb
  | val r => exact .val (r.ext e)
  | own r => exact .own (r.ext e k)
theorem SlRs.ext : ∀ {ρ : Env} {σ : L2.St} {fp : List Addr}, SlRs W H ρ σ fp → Ext H H' → (∀ a ∈ fp, H' a = H a) → SlRs W H' ρ σ fp
  | _, _, _, .nil, _, _ => .nil
  | _, _, _, .cons h r, e, k => .cons (h.ext e fun a m => k a (by simp [m])) (SlRs.ext r e fun a m => k a (by simp [m]))
theorem SlRs.length : ∀ {ρ : Env} {σ : L2.St} {fp : List Addr}, SlRs W H ρ σ fp → ρ.length = σ.length
  | _, _, _, .nil => rfl
  | _, _, _, .cons _ r => by simp [SlRs.length r]
/-- one slot taken out: the others' footprints stand around it -/
theorem SlRs.at : ∀ {ρ : Env} {σ : L2.St} {fp : List Addr} {i : Nat} {s : Sl}, SlRs W H ρ σ fp → ρ[i]? = some s →
    ∃ o f1 f2 f3, σ[i]? = some o ∧ fp = f1 ++ (f2 ++ f3) ∧ SlR W H s o f2 ∧
      ∀ (H' : Hp) (s' : Sl) (o' : Option V) (f' : List Addr), Ext H H' → (∀ a ∈ f1 ++ f3, H' a = H a) → SlR W H' s' o' f' → SlRs W H' (ρ.set i s') (σ.set i o') (f1 ++ (f' ++ f3))
  | _, _, _, _, _, .nil, h => by simp at h
  | _, _, _, 0, _, .cons (fp := fp) (fps := fps) h r, e => by
    simp at e; subst e
    refine ⟨_, [], fp, fps, rfl, by simp, h, fun H' s' o' f' e k q => ?_⟩
    show SlRs W H' _ _ (f' ++ fps)
    exact .cons q (r.ext e fun a m => k a (by simp [m]))
  | _, _, _, i + 1, _, .cons (fp := fp) (fps := fps) h r, e => by
    obtain ⟨o, f1, f2, f3, h1, h2, h3, h4⟩ := SlRs.at (i := i) r (by simpa using e)
    refine ⟨o, fp ++ f1, f2, f3, by simpa using h1, by rw [h2]; simp, h3, fun H' s' o' f' e k q => ?_⟩
    have := SlRs.cons (h.ext e fun a m => k a (by simp [m])) (h4 H' s' o' f' e (fun a m => k a (by simp at m ⊢; rcases m with m | m <;> simp [m])) q)
    simpa using this
end

/-- at the entry: the heap, what was handed in as own, the slots that keep -/
structure Fx where
  G : Hp
  In : List Addr
  fix : List (Nat × V)
structure RelP (W : Wd) (C : Fx) (ρ : Env) (σ : L2.St) (H : Hp) (fp ex : List Addr) : Prop where
  slots : SlRs W H ρ σ fp
  nd : (fp ++ ex).Nodup
  own : ∀ a ∈ fp ++ ex, a ∈ C.In ∨ C.G a = none
  frame : ∀ b o, C.G b = some o → b ∉ C.In → (∀ ps, o ≠ .tbl ps) → H b = some o
  dom : ∀ b, C.G b ≠ none → H b ≠ none
  fix : ∀ p ∈ C.fix, σ[p.1]? = some (some p.2)
  tabs : LamX.Tabs W.T H
def Rel (W : Wd) (C : Fx) (ρ : Env) (σ : L2.St) (H : Hp) : Prop := ∃ fp, RelP W C ρ σ H fp []
/-- .. beside a value just made -/
def RelT (W : Wd) (C : Fx) (ρ : Env) (σ : L2.St) (H : Hp) (t : T) (v : V) : Prop := ∃ fp ft, Own W H t v ft ∧ RelP W C ρ σ H fp ft
/-- an exception in the air -/
def RepX (W : Wd) (H : Hp) : D → Value → Option Addr → Prop
  | .exc c d, cls, dx => cls = .ref (W.cA c) ∧ ∃ a v, dx = some a ∧ H a = some (.xd [("value", v)]) ∧ Rep W H d v
  | _, _, _ => False

theorem Tabs.keep {Ts : List (Addr × Str)} {H H' : Hp} (h : LamX.Tabs Ts H) (e : Ext H H') (t : ∀ b ps, H b = some (.tbl ps) → H' b = some (.tbl ps)) : LamX.Tabs Ts H' := fun p hp => by
  obtain ⟨ps, h1, h2, h3⟩ := h p hp
  refine ⟨ps, t _ _ h1, h2, fun pos cv hc => ?_⟩
  obtain ⟨c, e1, e2⟩ := h3 pos cv hc
  exact ⟨c, e1, e.keep _ _ e2 (by unfold LamX.CodeO; exact True.intro)⟩

section
variable {W : Wd} {C : Fx} {ρ : Env} {σ : L2.St} {H H' : Hp} {fp ex : List Addr} {t : T} {v : V}
theorem Rel.relT {d : D} (h : Rel W C ρ σ H) (r : Rep W H d v) : RelT W C ρ σ H (.fr d) v := by
  obtain ⟨fp, h⟩ := h
  exact ⟨fp, [], .fr r, h⟩
theorem RelT.rel (h : RelT W C ρ σ H t v) : Rel W C ρ σ H := by
  obtain ⟨fp, ft, _, h⟩ := h
  refine ⟨fp, h.slots, ?_, fun a m => h.own a (by simp at m; simp [m]), h.frame, h.dom, h.fix, h.tabs⟩
  simpa using (List.nodup_append.mp h.nd).1
/-- the heap grows: new objects, or writes at places of nobody's -/
theorem RelP.new {p : Addr} {o : HO} (h : RelP W C ρ σ H fp ex) (hp : H p = none) (ho : ∀ ps, o ≠ .tbl ps) : RelP W C ρ σ (upd H p o) fp ex := by
  have e : Ext H (upd H p o) := Ext.new hp
  have ne : ∀ b u, H b = some u → b ≠ p := fun b u q => ne_of_none q hp
  refine ⟨h.slots.ext e fun a m => ?_, h.nd, h.own, fun b u q n nt => ?_, fun b q => ?_, h.fix, Tabs.keep h.tabs e fun b ps q => by rw [upd_ne (ne b _ q)]; exact q⟩
  · obtain ⟨u, q, _⟩ := (h.slots.live a m).some
    rw [upd_ne (ne a u q)]
  · have := h.frame b u q n nt
    rw [upd_ne (ne b u this)]; exact this
  · have := h.dom b q
    by_cases z : b = p
    · rw [z, upd_same]; exact fun z => nomatch z
    · rw [upd_ne z]; exact this
theorem Rel.new {p : Addr} {o : HO} (h : Rel W C ρ σ H) (hp : H p = none) (ho : ∀ ps, o ≠ .tbl ps) : Rel W C ρ σ (upd H p o) := let ⟨fp, h⟩ := h; ⟨fp, h.new hp ho⟩
theorem RelP.fresh {p : Addr} (h : RelP W C ρ σ H fp ex) (hp : H p = none) : C.G p = none := by
  cases e : C.G p with
  | none => rfl
  | some u => exact absurd hp (h.dom p (by rw [e]; exact fun z => nomatch z))
/-- a new own object, its parts frozen -/
theorem Rel.newOwn {p : Addr} {o : HO} (h : Rel W C ρ σ H) (hp : H p = none) (ho : ∀ ps, o ≠ .tbl ps) (q : Own W (upd H p o) t (.ref p) [p]) : RelT W C ρ σ (upd H p o) t (.ref p) := by
  obtain ⟨fp, h⟩ := h
  have h2 := h.new hp ho
  refine ⟨fp, [p], q, h2.slots, ?_, fun a m => ?_, h2.frame, h2.dom, h2.fix, h2.tabs⟩
  · refine List.nodup_append.mpr ⟨by simpa using h.nd, by simp, fun a m b m2 => ?_⟩
    have e : b = p := by simpa using m2
    subst e
    obtain ⟨u, q, _⟩ := (h.slots.live a m).some
    exact ne_of_none q hp
  · rcases List.mem_append.mp m with m | m
    · exact h.own a (by simp [m])
    · have e : a = p := by simpa using m
      rw [e]; exact .inr (h.fresh hp)
/-- freezing what was just made -/
theorem RelT.freeze {X : Cx} {pins : List (Addr × Obj)} {s : Shared} (I : Inv X pins σ H s) (h : RelT W C ρ σ H t v) :
    ∃ H', Inv X pins σ H' s ∧ Ext H H' ∧ Rel W C ρ σ H' ∧ Rep W H' t.toD v := by
  obtain ⟨fp, ft, o, h⟩ := h
  obtain ⟨n1, n2, n3⟩ := List.nodup_append.mp h.nd
  obtain ⟨H', I', e, r, k, d⟩ := Eg.freeze I o n2
  have lv := o.live
  refine ⟨H', I', e, ⟨fp, h.slots.ext e fun a m => k a fun z => n3 a m a z rfl, by simpa using n1, fun a m => h.own a (by simp at m; simp [m]), fun b u q n nt => ?_, fun b q => d b (h.dom b q), h.fix, Tabs.keep h.tabs e fun b ps q => ?_⟩, r⟩
  · rw [k b fun z => ?_]; exact h.frame b u q n nt
    rcases h.own b (by simp [z]) with y | y
    · exact n y
    · rw [q] at y; cases y
  · rw [k b fun z => ?_]; exact q
    rcases lv b z with ⟨_, y⟩ | ⟨_, y⟩ | ⟨_, _, _, y⟩ <;> rw [q] at y <;> cases y
/-- a slot is read and frozen -/
theorem Rel.freezeAt {X : Cx} {pins : List (Addr × Obj)} {s : Shared} {i : Nat} (I : Inv X pins σ H s) (h : Rel W C ρ σ H) (e : ρ[i]? = some (.own t)) :
    ∃ v H', σ[i]? = some (some v) ∧ Inv X pins σ H' s ∧ Ext H H' ∧ Rel W C (ρ.set i (.val t.toD)) σ H' ∧ Rep W H' t.toD v := by
  obtain ⟨fp, h⟩ := h
  obtain ⟨o, f1, f2, f3, h1, h2, h3, h4⟩ := h.slots.at e
  cases h3 with
  | own q =>
    rename_i v
    subst h2
    have nd := h.nd
    simp only [List.append_nil] at nd
    obtain ⟨n1, n2, n3⟩ := List.nodup_append.mp nd
    obtain ⟨m1, m2, m3⟩ := List.nodup_append.mp n2
    obtain ⟨H', I', ex, r, k, d⟩ := Eg.freeze I q m1
    have lv := q.live
    have ko : ∀ a ∈ f1 ++ f3, H' a = H a := fun a m => k a fun z => by
      rcases List.mem_append.mp m with m | m
      · exact n3 a m a (by simp [z]) rfl
      · exact m3 a z a m rfl
    have sl := h4 H' (.val t.toD) (some v) [] ex ko (.val r)
    have es : σ.set i (some v) = σ := by
      apply List.ext_getElem?
      intro j
      by_cases z : i = j
      · subst z; rw [List.getElem?_set_self (List.getElem?_eq_some_iff.mp h1).1, h1]
      · rw [List.getElem?_set_ne z]
    rw [es] at sl
    refine ⟨v, H', h1, I', ex, ⟨_, sl, ?_, fun a m => h.own a ?_, fun b u q n nt => ?_, fun b q => d b (h.dom b q), h.fix, Tabs.keep h.tabs ex fun b ps q => ?_⟩, r⟩
    · simp only [List.nil_append, List.append_nil]
      exact List.nodup_append.mpr ⟨n1, m2, fun a m b m' => n3 a m b (by simp [m'])⟩
    · simp at m ⊢; rcases m with m | m <;> simp [m]
    · rw [k b fun z => ?_]; exact h.frame b u q n nt
      rcases h.own b (by simp [z]) with y | y
      · exact n y
      · rw [q] at y; cases y
    · rw [k b fun z => ?_]; exact q
      rcases lv b z with ⟨_, y⟩ | ⟨_, y⟩ | ⟨_, _, _, y⟩ <;> rw [q] at y <;> cases y
end

/-! ### readings -/
section
variable (W : Wd) (C : Fx) (Wx : WX)
/-- the exception's way -/
def xWay (d : D) (ρ : Env) (σ : L2.St) (H : Hp) : Prop := ∀ cls dx H', Ext H H' → RepX W H' d cls dx → Rel W C ρ σ H' → Wx cls dx σ H'
def wE (o : Out T) (σ : L2.St) (H : Hp) (Q : VK) : Prop := match o with
  | .ok t ρ => ∀ v H', Ext H H' → RelT W C ρ σ H' t v → Q v H'
  | .exc d ρ => xWay W C Wx d ρ σ H
  | .bad => False
def wD (o : Out D) (σ : L2.St) (H : Hp) (Q : VK) : Prop := match o with
  | .ok d ρ => ∀ v H', Ext H H' → Rel W C ρ σ H' → Rep W H' d v → Q v H'
  | .exc d ρ => xWay W C Wx d ρ σ H
  | .bad => False
/-- looked at alone -/
def wB (o : Out T) (σ : L2.St) (H : Hp) (Q : VK) : Prop := match o with
  | .ok t ρ => ∀ v H', Ext H H' → Rel W C ρ σ H' → (∃ fp, Own W H' t v fp) → Q v H'
  | .exc d ρ => xWay W C Wx d ρ σ H
  | .bad => False
def wT (o : Out Bool) (σ : L2.St) (H : Hp) (Q : Bool → Hp → Prop) : Prop := match o with
  | .ok b ρ => ∀ H', Ext H H' → Rel W C ρ σ H' → Q b H'
  | .exc d ρ => xWay W C Wx d ρ σ H
  | .bad => False
def wDs (o : Out (List D)) (σ : L2.St) (H : Hp) (Q : List V → Hp → Prop) : Prop := match o with
  | .ok ds ρ => ∀ vs H', Ext H H' → Rel W C ρ σ H' → Reps W H' ds vs → Q vs H'
  | .exc d ρ => xWay W C Wx d ρ σ H
  | .bad => False
end
section
variable (W : Wd) (Wx : WX)
def tE (ev : Env → Out T) : TE := fun σ H Q => ∃ C ρ, Rel W C ρ σ H ∧ wE W C Wx (ev ρ) σ H Q
def tD (ev : Env → Out D) : TE := fun σ H Q => ∃ C ρ, Rel W C ρ σ H ∧ wD W C Wx (ev ρ) σ H Q
def tBo (ev : Env → Out T) : TE := fun σ H Q => ∃ C ρ, Rel W C ρ σ H ∧ wB W C Wx (ev ρ) σ H Q
def tTe (ev : Env → Out Bool) : TT := fun σ H Q => ∃ C ρ, Rel W C ρ σ H ∧ wT W C Wx (ev ρ) σ H Q
def tDs (ev : Env → Out (List D)) : TA := fun σ H Q => ∃ C ρ, Rel W C ρ σ H ∧ wDs W C Wx (ev ρ) σ H Q
end
section
variable {W : Wd} {C : Fx} {Wx : WX} {X : Cx} {e : Expr} {t t' : TE} {H H1 : Hp} {σ : L2.St}
theorem _root_.L2.PE.mono (h : PE X e t) (k : ∀ σ H Q, t' σ H Q → t σ H Q) : PE X e t' := ⟨fun pins s σ H Q I q => h.run pins s σ H Q I (k σ H Q q)⟩
theorem _root_.L2.PT.mono {t t' : TT} (h : PT X e t) (k : ∀ σ H Q, t' σ H Q → t σ H Q) : PT X e t' := ⟨fun pins s σ H Q I q => h.run pins s σ H Q I (k σ H Q q)⟩
theorem _root_.L2.PA.mono {es : List Expr} {t t' : TA} (h : PA X es t) (k : ∀ σ H Q, t' σ H Q → t σ H Q) : PA X es t' := ⟨fun pos pins s σ H Q I q => h.run pos pins s σ H Q I (k σ H Q q)⟩
theorem xWay.mono {d : D} {ρ : Env} (e : Ext H H1) (h : xWay W C Wx d ρ σ H) : xWay W C Wx d ρ σ H1 := fun cls dx H' e' => h cls dx H' (e.trans e')
theorem wE.mono {o : Out T} {Q : VK} (e : Ext H H1) (h : wE W C Wx o σ H Q) : wE W C Wx o σ H1 Q := by
  cases o with
  | ok t ρ => exact fun v H' e' => h v H' (e.trans e')
  | exc d ρ => exact xWay.mono e h
  | bad => exact h
theorem wD.mono {o : Out D} {Q : VK} (e : Ext H H1) (h : wD W C Wx o σ H Q) : wD W C Wx o σ H1 Q := by
  cases o with
  | ok t ρ => exact fun v H' e' => h v H' (e.trans e')
  | exc d ρ => exact xWay.mono e h
  | bad => exact h
theorem wB.mono {o : Out T} {Q : VK} (e : Ext H H1) (h : wB W C Wx o σ H Q) : wB W C Wx o σ H1 Q := by
  cases o with
  | ok t ρ => exact fun v H' e' => h v H' (e.trans e')
  | exc d ρ => exact xWay.mono e h
  | bad => exact h
theorem wT.mono {o : Out Bool} {Q : Bool → Hp → Prop} (e : Ext H H1) (h : wT W C Wx o σ H Q) : wT W C Wx o σ H1 Q := by
  cases o with
  | ok t ρ => exact fun H' e' => h H' (e.trans e')
  | exc d ρ => exact xWay.mono e h
  | bad => exact h
theorem wDs.mono {o : Out (List D)} {Q : List V → Hp → Prop} (e : Ext H H1) (h : wDs W C Wx o σ H Q) : wDs W C Wx o σ H1 Q := by
  cases o with
  | ok t ρ => exact fun vs H' e' => h vs H' (e.trans e')
  | exc d ρ => exact xWay.mono e h
  | bad => exact h
/-- a step behind another: the first one's reading, then whatever is wanted of the rest -/
theorem wD_bind {α : Type} {P : Out α → Hp → Prop} (hx : ∀ d ρ H, P (.exc d ρ) H → xWay W C Wx d ρ σ H) (hb : ∀ H, ¬ P .bad H) (hm : ∀ o H H1, Ext H H1 → P o H → P o H1)
    {o : Out D} {k : D → Env → Out α} {Q : VK} (h : P (o.bind k) H) (hk : ∀ d ρ v H1, Ext H H1 → Rel W C ρ σ H1 → Rep W H1 d v → P (k d ρ) H1 → Q v H1) : wD W C Wx o σ H Q := by
  cases o with
  | ok d ρ => exact fun v H1 e r q => hk d ρ v H1 e r q (hm _ _ _ e h)
  | exc d ρ => exact hx _ _ _ h
  | bad => exact hb _ h
theorem wB_bind {α : Type} {P : Out α → Hp → Prop} (hx : ∀ d ρ H, P (.exc d ρ) H → xWay W C Wx d ρ σ H) (hb : ∀ H, ¬ P .bad H) (hm : ∀ o H H1, Ext H H1 → P o H → P o H1)
    {o : Out T} {k : T → Env → Out α} {Q : VK} (h : P (o.bind k) H) (hk : ∀ t ρ v H1, Ext H H1 → Rel W C ρ σ H1 → (∃ fp, Own W H1 t v fp) → P (k t ρ) H1 → Q v H1) : wB W C Wx o σ H Q := by
  cases o with
  | ok d ρ => exact fun v H1 e r q => hk d ρ v H1 e r q (hm _ _ _ e h)
  | exc d ρ => exact hx _ _ _ h
  | bad => exact hb _ h
theorem wT_bind {α : Type} {P : Out α → Hp → Prop} (hx : ∀ d ρ H, P (.exc d ρ) H → xWay W C Wx d ρ σ H) (hb : ∀ H, ¬ P .bad H) (hm : ∀ o H H1, Ext H H1 → P o H → P o H1)
    {o : Out Bool} {k : Bool → Env → Out α} {Q : Bool → Hp → Prop} (h : P (o.bind k) H) (hk : ∀ b ρ H1, Ext H H1 → Rel W C ρ σ H1 → P (k b ρ) H1 → Q b H1) : wT W C Wx o σ H Q := by
  cases o with
  | ok d ρ => exact fun H1 e r => hk d ρ H1 e r (hm _ _ _ e h)
  | exc d ρ => exact hx _ _ _ h
  | bad => exact hb _ h
theorem wDs_bind {α : Type} {P : Out α → Hp → Prop} (hx : ∀ d ρ H, P (.exc d ρ) H → xWay W C Wx d ρ σ H) (hb : ∀ H, ¬ P .bad H) (hm : ∀ o H H1, Ext H H1 → P o H → P o H1)
    {o : Out (List D)} {k : List D → Env → Out α} {Q : List V → Hp → Prop} (h : P (o.bind k) H) (hk : ∀ ds ρ vs H1, Ext H H1 → Rel W C ρ σ H1 → Reps W H1 ds vs → P (k ds ρ) H1 → Q vs H1) : wDs W C Wx o σ H Q := by
  cases o with
  | ok d ρ => exact fun v H1 e r q => hk d ρ v H1 e r q (hm _ _ _ e h)
  | exc d ρ => exact hx _ _ _ h
  | bad => exact hb _ h
/-- frozen behind it -/
theorem pe_frz {ev : Env → Out T} (h : PE X e (tE W Wx ev)) : PE X e (tD W Wx fun ρ => freezeO (ev ρ)) := by
  refine ⟨fun pins s σ H Q I ⟨C, ρ, rel, q⟩ => ?_⟩
  cases eo : ev ρ with
  | ok t ρ' =>
    simp only [eo, freezeO] at q
    refine thn (h.run pins s σ H (fun v H' => Ext H H' ∧ RelT W C ρ' σ H' t v) I ⟨C, ρ, rel, by rw [eo]; exact fun v H' e r => ⟨e, r⟩⟩) fun u s1 ⟨v, H1, I1, r1, e1, rt⟩ => ?_
    obtain ⟨H2, I2, e2, rl, rp⟩ := rt.freeze I1
    exact ⟨v, H2, I2, r1, q v H2 (e1.trans e2) rl rp⟩
  | exc d ρ' =>
    simp only [eo, freezeO] at q
    exact h.run pins s σ H Q I ⟨C, ρ, rel, by rw [eo]; exact q⟩
  | bad =>
    simp only [eo, freezeO] at q
    exact q.elim
/-- what is frozen may be looked at -/
theorem pe_look {ev : Env → Out D} (h : PE X e (tD W Wx ev)) : PE X e (tBo W Wx fun ρ => (ev ρ).bind fun d ρ => .ok (.fr d) ρ) := by
  refine h.mono fun σ H Q ⟨C, ρ, rel, q⟩ => ⟨C, ρ, rel, ?_⟩
  cases eo : ev ρ with
  | ok t ρ' => simp only [eo, Out.bind] at q; exact fun v H' e r p => q v H' e r ⟨[], .fr p⟩
  | exc d ρ' => simp only [eo, Out.bind] at q; exact q
  | bad => simp only [eo, Out.bind] at q; exact q
end
end Eg
set_option Elab.async false
set_option linter.all false
set_option maxRecDepth 100000
set_option maxHeartbeats 4000000
/-! the engine: operations on values -/
namespace Eg
open PySem PySem.Spec PyProof.Rows L2

/-- stands for now: as Rep, or an own thing whose parts are frozen -/
inductive WRep (W : Wd) (H : Hp) : D → V → Prop where
  | rep {d : D} {v : V} : Rep W H d v → WRep W H d v
  | lst {ds : List D} {a : Addr} {vs : List V} : H a = some (.lst vs) → Reps W H ds vs → WRep W H (.lst ds) (.ref a)
  | dic {ks : List Key} {ds : List D} {a : Addr} {vs : List V} : H a = some (.dK (ks.zip vs)) → Reps W H ds vs → ks.length = vs.length → WRep W H (.dic ks ds) (.ref a)
  | ins {c : Nat} {ds : List D} {a dx : Addr} {vs : List V} : H a = some (.ins (W.cA c) dx ((W.fl c).zip vs)) → Reps W H ds vs → vs.length ≤ (W.fl c).length → WRep W H (.ins c ds) (.ref a)
theorem frs_owns {W : Wd} {H : Hp} : ∀ {ts : List T} {ds : List D} {vs : List V} {fp : List Addr}, frs ts = some ds → Owns W H ts vs fp → Reps W H ds vs ∧ ts = ds.map .fr
  | [], _, _, _, e, .nil => by cases e; exact ⟨.nil, rfl⟩
  | t :: ts, ds, _, _, e, .cons h r => by
    cases t with
    | fr d =>
      simp only [frs] at e
      obtain ⟨ds', e1, rfl⟩ := Option.map_eq_some_iff.mp e
      obtain ⟨r1, r2⟩ := frs_owns e1 r
      cases h with
      | fr q => exact ⟨.cons q r1, by rw [r2]; rfl⟩
    | lst _ => cases e
    | dic _ _ => cases e
    | ins _ _ => cases e
theorem shal_wrep {W : Wd} {H : Hp} {t : T} {d : D} {v : V} {fp : List Addr} (e : t.shal = some d) (o : Own W H t v fp) : WRep W H d v := by
  cases o with
  | fr r => simp only [T.shal] at e; cases e; exact .rep r
  | lst h r =>
    simp only [T.shal] at e
    obtain ⟨ds, e1, rfl⟩ := Option.map_eq_some_iff.mp e
    exact .lst h (frs_owns e1 r).1
  | dic h r l =>
    simp only [T.shal] at e
    obtain ⟨ds, e1, rfl⟩ := Option.map_eq_some_iff.mp e
    exact .dic h (frs_owns e1 r).1 l
  | ins h r l =>
    simp only [T.shal] at e
    obtain ⟨ds, e1, rfl⟩ := Option.map_eq_some_iff.mp e
    exact .ins h (frs_owns e1 r).1 l
section
variable {W : Wd} {H : Hp} {v : V} {ds : List D}
theorem WRep.lstI (h : WRep W H (.lst ds) v) : ∃ a vs, v = .ref a ∧ SqL W.K H a vs ∧ Reps W H ds vs := by
  cases h with
  | rep r => cases r with
    | lst h r => exact ⟨_, _, rfl, h.sql, r⟩
  | lst h r => exact ⟨_, _, rfl, .inl (.inl h), r⟩
theorem WRep.tupI (h : WRep W H (.tup ds) v) : ∃ a vs, v = .ref a ∧ SqT W.K H a vs ∧ Reps W H ds vs := by
  cases h with
  | rep r => cases r with
    | tup h r => exact ⟨_, _, rfl, h, r⟩
theorem WRep.intI {i : Int} (h : WRep W H (.int i) v) : v = .int i := by
  cases h with
  | rep r => cases r; rfl
theorem WRep.strI {i : Str} (h : WRep W H (.str i) v) : v = .str i := by
  cases h with
  | rep r => cases r; rfl
theorem WRep.blI {i : Bool} (h : WRep W H (.bl i) v) : v = .bl i := by
  cases h with
  | rep r => cases r; rfl
theorem WRep.nonI (h : WRep W H .non v) : v = .non := by
  cases h with
  | rep r => cases r; rfl
end
/-- what a built-in operation gives: a value that is there, or one new object -/
def ResT (W : Wd) (H : Hp) (t : T) (u : V) (H' : Hp) : Prop :=
  (H' = H ∧ ∃ d, t = .fr d ∧ Rep W H d u) ∨ ∃ p o, H p = none ∧ (∀ ps, o ≠ .tbl ps) ∧ H' = upd H p o ∧ u = .ref p ∧ ((∃ d, t = .fr d ∧ Rep W H' d u) ∨ Own W H' t u [p])
theorem ResT.keep {W : Wd} {H H' : Hp} {d : D} {u : V} (r : Rep W H d u) : ResT W H (.fr d) u H := .inl ⟨rfl, d, rfl, r⟩
theorem ResT.rel {W : Wd} {C : Fx} {ρ : Env} {σ : L2.St} {H H' : Hp} {t : T} {u : V} (h : ResT W H t u H') (r : Rel W C ρ σ H) : Ext H H' ∧ RelT W C ρ σ H' t u := by
  rcases h with ⟨rfl, d, rfl, q⟩ | ⟨p, o, hp, ho, rfl, rfl, ⟨d, rfl, q⟩ | q⟩
  · exact ⟨Ext.refl _, r.relT q⟩
  · exact ⟨Ext.new hp, (r.new hp ho).relT q⟩
  · exact ⟨Ext.new hp, r.newOwn hp ho q⟩
theorem ResT.newTup {W : Wd} {H : Hp} {p : Addr} {ds : List D} {vs : List V} (hp : H p = none) (r : Reps W H ds vs) : ResT W H (.fr (.tup ds)) (.ref p) (upd H p (.tup vs)) :=
  .inr ⟨p, .tup vs, hp, fun _ z => (nomatch z), rfl, rfl, .inl ⟨_, rfl, .tup (SqT.of upd_same) (r.ext (Ext.new hp))⟩⟩
theorem ResT.newLst {W : Wd} {H : Hp} {p : Addr} {ds : List D} {vs : List V} (hp : H p = none) (r : Reps W H ds vs) : ResT W H (.lst (ds.map .fr)) (.ref p) (upd H p (.lst vs)) :=
  .inr ⟨p, .lst vs, hp, fun _ z => (nomatch z), rfl, rfl, .inr (.lst upd_same (r.ext (Ext.new hp)).owns)⟩

theorem fits_le {n : Nat} (h : fits n = true) : n ≤ sizeLine := by
  rw [sizeLine_eq]; exact of_decide_eq_true h

/-! ### == -/
mutual
theorem plain_dp {W : Wd} {H : Hp} : ∀ {n : Nat} {d : D} {v : V}, d.plain n = true → Rep W H d v → Dp W.K H v d.py
  | _, .non, _, _, .non => by rw [D.py]; exact .non
  | _, .bl b, _, _, .bl _ => by rw [D.py]; exact .bl b
  | _, .int i, _, _, .int _ => by rw [D.py]; exact .int i
  | _, .str s, _, _, .str _ => by rw [D.py]; exact .str s
  | n + 1, .tup xs, _, h, .tup q r => by rw [D.py]; exact .tup q (plains_dp (by simpa [D.plain] using h) r)
  | n + 1, .lst xs, _, h, .lst q r => by rw [D.py]; exact .lst q.sql (plains_dp (by simpa [D.plain] using h) r)
  | 0, .tup xs, _, h, _ => by simp [D.plain] at h
  | 0, .lst xs, _, h, _ => by simp [D.plain] at h
  | n, .dic _ _, _, h, _ => by cases n <;> simp [D.plain] at h
  | n, .ins _ _, _, h, _ => by cases n <;> simp [D.plain] at h
  | n, .exc _ _, _, h, _ => by cases n <;> simp [D.plain] at h
theorem plains_dp {W : Wd} {H : Hp} : ∀ {n : Nat} {ds : List D} {vs : List V}, D.plains n ds = true → Reps W H ds vs → DpAll W.K H vs (D.pys ds)
  | _, [], _, _, .nil => by rw [D.pys]; exact .nil
  | n, d :: ds, _, h, .cons q r => by
    rw [D.pys]
    simp only [D.plains, Bool.and_eq_true] at h
    exact .cons (plain_dp h.1 q) (plains_dp h.2 r)
end
mutual
theorem plain_lay : ∀ {n : Nat} {d : D}, d.plain n = true → d.py.canLay0 = true ∧ d.py.depth ≤ n + 1
  | _, .non, _ => by simp [D.py, PyData.canLay0, PyData.depth]
  | _, .bl b, _ => by simp [D.py, PyData.canLay0, PyData.depth]
  | _, .int i, _ => by simp [D.py, PyData.canLay0, PyData.depth]
  | n, .str s, h => by
    have h' : strOkB s = true := by cases n <;> simpa [D.plain] using h
    refine ⟨?_, by simp [D.py, PyData.depth]⟩
    simp only [D.py, PyData.canLay0]
    exact h'
  | n + 1, .tup xs, h => by
    obtain ⟨h1, h2⟩ := plains_lay (show D.plains n xs = true by simpa [D.plain] using h)
    refine ⟨by simpa [D.py, PyData.canLay0] using h1, ?_⟩
    simp only [D.py, PyData.depth]; omega
  | n + 1, .lst xs, h => by
    obtain ⟨h1, h2⟩ := plains_lay (show D.plains n xs = true by simpa [D.plain] using h)
    refine ⟨by simpa [D.py, PyData.canLay0] using h1, ?_⟩
    simp only [D.py, PyData.depth]; omega
  | 0, .tup xs, h => by simp [D.plain] at h
  | 0, .lst xs, h => by simp [D.plain] at h
  | n, .dic _ _, h => by cases n <;> simp [D.plain] at h
  | n, .ins _ _, h => by cases n <;> simp [D.plain] at h
  | n, .exc _ _, h => by cases n <;> simp [D.plain] at h
theorem plains_lay : ∀ {n : Nat} {ds : List D}, D.plains n ds = true → PyData.canLayAll0 (D.pys ds) = true ∧ PyData.depthAll (D.pys ds) ≤ n + 1
  | _, [], _ => by simp [D.pys, PyData.canLayAll0, PyData.depthAll]
  | n, d :: ds, h => by
    simp only [D.plains, Bool.and_eq_true] at h
    obtain ⟨a1, a2⟩ := plain_lay h.1
    obtain ⟨b1, b2⟩ := plains_lay h.2
    refine ⟨by simp [D.pys, PyData.canLayAll0, a1, b1], ?_⟩
    simp only [D.pys, PyData.depthAll]
    omega
end
theorem plain_shaped {n : Nat} {d : D} (h : d.plain n = true) (hn : n ≤ 60) : SeqAt.shaped d.py = true := by
  obtain ⟨h1, h2⟩ := plain_lay h
  unfold SeqAt.shaped
  rw [h1]
  simp only [Bool.true_and, decide_eq_true_eq]
  omega
theorem wplain_dp {W : Wd} {H : Hp} {n : Nat} {d : D} {v : V} (h : d.plain n = true) (r : WRep W H d v) : Dp W.K H v d.py := by
  cases r with
  | rep r => exact plain_dp h r
  | lst q r =>
    cases n with
    | zero => simp [D.plain] at h
    | succ n => rw [D.py]; exact .lst (.inl (.inl q)) (plains_dp (by simpa [D.plain] using h) r)
  | dic _ _ _ => cases n <;> simp [D.plain] at h
  | ins _ _ _ => cases n <;> simp [D.plain] at h

section
variable {X : Cx} {W : Wd}
inductive WReps (W : Wd) (H : Hp) : List D → List V → Prop where
  | nil : WReps W H [] []
  | cons {d : D} {v : V} {ds : List D} {vs : List V} : WRep W H d v → WReps W H ds vs → WReps W H (d :: ds) (v :: vs)
theorem Reps.wreps {W : Wd} {H : Hp} : ∀ {ds : List D} {vs : List V}, Reps W H ds vs → WReps W H ds vs
  | _, _, .nil => .nil
  | _, _, .cons h r => .cons (.rep h) (Reps.wreps r)
/-- a two-place operation on values, by what it is on data -/
def OpD (W : Wd) (X : Cx) (f : Value → Value → Sem Value) (op : D → D → Option T) : Prop :=
  OpR X f fun v w H Q => ∃ x y t, WRep W H x v ∧ WRep W H y w ∧ op x y = some t ∧ ∀ u H', ResT W H t u H' → Q u H'
theorem frD {W : Wd} {H : Hp} {Q : VK} {d : D} {u : V} (q : ∀ u H', ResT W H (.fr d) u H' → Q u H') (r : Rep W H d u) : Q u H := q u H (.inl ⟨rfl, d, rfl, r⟩)
theorem add_listG {E : Value → Shared → Prop} {s : Shared} {l b : Addr} {vs ws : List Value} {Q : Value → Shared → Prop} (hl : s.heap.IsList l vs.toArray) (hb : s.heap.IsList b ws.toArray)
    (h : Q (.ref s.heap.objs.size) { s with heap := s.heap.push { cls := .type "list", data := .seq (vs ++ ws).toArray } }) (hsz : vs.length + ws.length ≤ sizeLine) :
    wpAny (model X.prog X.w) X.A (binaryOp .Add (.ref l) (.ref b)) Q E s := by
  obtain ⟨⟨cls, dd, data, sl⟩, ho, hc, n, hd⟩ := id hl
  obtain ⟨⟨cls2, dd2, data2, sl2⟩, ho2, hc2, n2, hd2⟩ := id hb
  simp only at hc hd hc2 hd2
  subst hc hd hc2 hd2
  have e : vs.toArray ++ ws.toArray = (vs ++ ws).toArray := by simp
  refine concat_meets ⟨_, ho, rfl⟩ ⟨_, ho2, rfl⟩ noFill_list_add seq_list_add PySem.F.slot_list_add PySem.F.entry_list_add (PySem.F.args_list_add_2 _ _) (list_addW l b vs.toArray ws.toArray n n2 dd dd2 sl sl2 (by simpa using hsz)) ⟨ho, ho2, ?_⟩
  rw [e]
  exact h
theorem bin_add (hK : X.K = W.K) : OpD W X (binaryOp .Add) (binD .Add) := by
  intro pins s σ H v w u1 u2 Q I r1 r2 ⟨x, y, t, h1, h2, e, q⟩
  cases x <;> cases y <;> simp only [binD] at e <;> try (cases e; done)
  · cases e; cases h1.intI; cases h2.intI
    exact op_add pins s σ H _ _ u1 u2 Q I r1 r2 ⟨_, _, rfl, rfl, frD q (.int _)⟩
  · split at e
    · rename_i hf
      cases e; cases h1.strI; cases h2.strI
      exact op_add_str pins s σ H _ _ u1 u2 Q I r1 r2 ⟨_, _, rfl, rfl, fits_le hf, frD q (.str _)⟩
    · cases e
  · split at e
    · rename_i hf
      cases e
      obtain ⟨a, vs, rfl, ha, ra⟩ := h1.tupI
      obtain ⟨b, ws, rfl, hb, rb⟩ := h2.tupI
      rw [← hK] at ha hb
      refine op_catA pins s σ H _ _ u1 u2 Q I r1 r2 ⟨a, b, vs, ws, rfl, rfl, ha, hb, by rw [← ra.length, ← rb.length]; exact fits_le hf, fun e => ?_, fun _ e => ?_, fun _ _ p hp => ?_⟩
      · subst e; cases ra; exact frD q (.tup (hK ▸ hb) rb)
      · subst e; cases rb; exact frD q (by rw [List.append_nil]; exact .tup (hK ▸ ha) ra)
      · exact q _ _ (.newTup hp (ra.append rb))
    · cases e
  · split at e
    · rename_i hf
      cases e
      obtain ⟨a, vs, rfl, ha, ra⟩ := h1.lstI
      obtain ⟨b, ws, rfl, hb, rb⟩ := h2.lstI
      rw [← hK] at ha hb
      cases r1; cases r2
      obtain ⟨its, rv, pl, hz⟩ := I.list ha
      obtain ⟨its2, rv2, pl2, hz2⟩ := I.list hb
      refine add_listG pl.isList pl2.isList ?_ (by rw [← rv.length, ← rv2.length, ← ra.length, ← rb.length]; exact fits_le hf)
      exact ⟨.ref _, _, I.lnew (t' := s.toks) (rv.append rv2) (by rw [List.length_append, ← ra.length, ← rb.length]; exact fits_le hf), rfl, q _ _ (.newLst I.fresh (ra.append rb))⟩
    · cases e
theorem bin_sub : OpD W X (binaryOp .Sub) (binD .Sub) := by
  intro pins s σ H v w u1 u2 Q I r1 r2 ⟨x, y, t, h1, h2, e, q⟩
  cases x <;> cases y <;> simp only [binD] at e <;> try (cases e; done)
  cases e; cases h1.intI; cases h2.intI
  exact op_sub pins s σ H _ _ u1 u2 Q I r1 r2 ⟨_, _, rfl, rfl, frD q (.int _)⟩
theorem bin_mul : OpD W X (binaryOp .Mult) (binD .Mult) := by
  intro pins s σ H v w u1 u2 Q I r1 r2 ⟨x, y, t, h1, h2, e, q⟩
  cases x <;> cases y <;> simp only [binD] at e <;> try (cases e; done)
  split at e
  · rename_i hm
    cases e; cases h1.intI; cases h2.intI
    exact op_mulW pins s σ H _ _ u1 u2 Q I r1 r2 ⟨_, _, rfl, rfl, by simpa [mulOk, CMulW] using hm, frD q (.int _)⟩
  · cases e
theorem bin_mod : OpD W X (binaryOp .Mod) (binD .Mod) := by
  intro pins s σ H v w u1 u2 Q I r1 r2 ⟨x, y, t, h1, h2, e, q⟩
  cases x <;> cases y <;> simp only [binD] at e <;> try (cases e; done)
  split at e
  · rename_i hm
    cases e; cases h1.intI; cases h2.intI
    exact op_modN pins s σ H _ _ u1 u2 Q I r1 r2 ⟨_, _, rfl, rfl, hm, frD q (.int _)⟩
  · cases e
theorem bin_fdiv : OpD W X (binaryOp .FloorDiv) (binD .FloorDiv) := by
  intro pins s σ H v w u1 u2 Q I r1 r2 ⟨x, y, t, h1, h2, e, q⟩
  cases x <;> cases y <;> simp only [binD] at e <;> try (cases e; done)
  split at e
  · rename_i i j hm
    cases e; cases h1.intI; cases h2.intI
    simp only [divOk, Bool.and_eq_true, decide_eq_true_eq] at hm
    obtain ⟨t1, rfl⟩ := r1
    obtain ⟨t2, rfl⟩ := r2
    exact floordiv_int hm.1 ⟨.int _, H, I.tok _, ⟨_, rfl⟩, frD q (.int _)⟩ (.inl (PyProof.noPylong_of_log2 hm.2))
  · cases e
theorem bin_pow : OpD W X (binaryOp .Pow) (binD .Pow) := by
  intro pins s σ H v w u1 u2 Q I r1 r2 ⟨x, y, t, h1, h2, e, q⟩
  cases x <;> cases y <;> simp only [binD] at e <;> try (cases e; done)
  split at e
  · rename_i i j hm
    cases e; cases h1.intI; cases h2.intI
    simp only [powOk, Bool.and_eq_true, decide_eq_true_eq] at hm
    obtain ⟨t1, rfl⟩ := r1
    obtain ⟨t2, rfl⟩ := r2
    exact pow_int hm.1 (by have := hm.2; omega) ⟨.int _, H, I.tok _, ⟨_, rfl⟩, frD q (.int _)⟩
  · cases e
theorem bin_all (hK : X.K = W.K) : ∀ op, OpD W X (binaryOp op) (binD op) := by
  intro op
  cases op
  case Add => exact bin_add hK
  case Sub => exact bin_sub
  case Mult => exact bin_mul
  case Mod => exact bin_mod
  case FloorDiv => exact bin_fdiv
  case Pow => exact bin_pow
  all_goals (intro pins s σ H v w u1 u2 Q I r1 r2 ⟨x, y, t, h1, h2, e, q⟩; cases x <;> cases y <;> simp only [binD] at e <;> cases e)

/-! ### comparisons -/
theorem bl_res {H : Hp} {b : Bool} {Q : VK} (q : ∀ u H', ResT W H (.fr (.bl b)) u H' → Q u H') : Q (.bl b) H := frD q (.bl b)
theorem map_bl {o : Option Bool} {t : T} (e : (o.map fun b => T.fr (.bl b)) = some t) : ∃ b, o = some b ∧ t = .fr (.bl b) := by
  obtain ⟨b, h1, rfl⟩ := Option.map_eq_some_iff.mp e
  exact ⟨b, h1, rfl⟩
theorem scal_eqv {H : Hp} {x y : D} {v w : V} (e : D.scal x y = true) (h1 : WRep W H x v) (h2 : WRep W H y w) : scal v w = true ∧ decide (v = w) = D.eqv x y := by
  cases x <;> cases y <;> simp only [D.scal, D.flat, Bool.and_true, Bool.and_false, Bool.false_eq_true, Bool.true_and, Bool.and_self] at e <;> try (cases e; done)
  · cases h1.nonI; cases h2.nonI; simp [L2.scal, D.eqv, D.py, PyData.eqv]
  · cases h1.nonI; cases h2.blI; simp [L2.scal, D.eqv, D.py, PyData.eqv]
  · cases h1.nonI; cases h2.intI; simp [L2.scal, D.eqv, D.py, PyData.eqv]
  · cases h1.nonI; cases h2.strI; simp [L2.scal, D.eqv, D.py, PyData.eqv]
  · cases h1.blI; cases h2.nonI; simp [L2.scal, D.eqv, D.py, PyData.eqv]
  · cases h1.blI; cases h2.blI; refine ⟨rfl, ?_⟩; rw [dec_bl]; simp [D.eqv, D.py, PyData.eqv]
  · cases h1.blI; cases h2.strI; simp [L2.scal, D.eqv, D.py, PyData.eqv]
  · cases h1.intI; cases h2.nonI; simp [L2.scal, D.eqv, D.py, PyData.eqv]
  · cases h1.intI; cases h2.intI; refine ⟨rfl, ?_⟩; rw [dec_int]; simp [D.eqv, D.py, PyData.eqv]
  · cases h1.intI; cases h2.strI; simp [L2.scal, D.eqv, D.py, PyData.eqv]
  · cases h1.strI; cases h2.nonI; simp [L2.scal, D.eqv, D.py, PyData.eqv]
  · cases h1.strI; cases h2.blI; simp [L2.scal, D.eqv, D.py, PyData.eqv]
  · cases h1.strI; cases h2.intI; simp [L2.scal, D.eqv, D.py, PyData.eqv]
  · cases h1.strI; cases h2.strI; refine ⟨rfl, ?_⟩; rw [dec_str]; simp [D.eqv, D.py, PyData.eqv]
theorem cmp_eq (hK : X.K = W.K) (hu : X.A.units + 300 < cLine) : OpD W X (compareOp .Eq) (fun x y => (cmpD .Eq x y).map fun b => .fr (.bl b)) := by
  intro pins s σ H v w u1 u2 Q I r1 r2 ⟨x, y, t, h1, h2, e, q⟩
  obtain ⟨b, e1, rfl⟩ := map_bl e
  simp only [cmpD, eqD] at e1
  split at e1
  · rename_i hc
    cases e1
    by_cases hs : D.scal x y = true
    · obtain ⟨a1, a2⟩ := scal_eqv hs h1 h2
      refine op_eq pins s σ H v w u1 u2 Q I r1 r2 ⟨a1, ?_⟩
      rw [a2]; exact bl_res q
    · have hs' : D.scal x y = false := by simpa using hs
      rw [hs'] at hc
      simp only [Bool.false_or, Bool.and_eq_true] at hc
      exact op_eqD (by omega) pins s σ H v w u1 u2 Q I r1 r2 ⟨_, _, hK ▸ wplain_dp hc.1 h1, hK ▸ wplain_dp hc.2 h2, plain_shaped hc.1 (by decide), plain_shaped hc.2 (by decide), bl_res q⟩
  · cases e1
theorem cmp_ne (hK : X.K = W.K) (hu : X.A.units + 300 < cLine) : OpD W X (compareOp .NotEq) (fun x y => (cmpD .NotEq x y).map fun b => .fr (.bl b)) := by
  intro pins s σ H v w u1 u2 Q I r1 r2 ⟨x, y, t, h1, h2, e, q⟩
  obtain ⟨b, e1, rfl⟩ := map_bl e
  simp only [cmpD, eqD] at e1
  obtain ⟨b', e2, rfl⟩ := Option.map_eq_some_iff.mp e1
  split at e2
  · rename_i hc
    cases e2
    by_cases hs : D.scal x y = true
    · obtain ⟨a1, a2⟩ := scal_eqv hs h1 h2
      refine op_ne pins s σ H v w u1 u2 Q I r1 r2 ⟨a1, ?_⟩
      rw [a2]; exact bl_res q
    · have hs' : D.scal x y = false := by simpa using hs
      rw [hs'] at hc
      simp only [Bool.false_or, Bool.and_eq_true] at hc
      exact op_neD (by omega) pins s σ H v w u1 u2 Q I r1 r2 ⟨_, _, hK ▸ wplain_dp hc.1 h1, hK ▸ wplain_dp hc.2 h2, plain_shaped hc.1 (by decide), plain_shaped hc.2 (by decide), bl_res q⟩
  · cases e2
theorem cmp_is : OpD W X (compareOp .Is) (fun x y => (cmpD .Is x y).map fun b => .fr (.bl b)) := by
  intro pins s σ H v w u1 u2 Q I r1 r2 ⟨x, y, t, h1, h2, e, q⟩
  obtain ⟨b, e1, rfl⟩ := map_bl e
  cases y <;> simp only [cmpD] at e1 <;> try (cases e1; done)
  cases h2.nonI
  refine op_isN pins s σ H v _ u1 u2 Q I r1 r2 ⟨rfl, ?_⟩
  have : decide (v = .non) = b := by
    cases h1 with
    | rep r => cases r <;> simp at e1 <;> subst e1 <;> simp
    | lst _ _ => simp at e1; subst e1; simp
    | dic _ _ _ => simp at e1; subst e1; simp
    | ins _ _ _ => simp at e1; subst e1; simp
  rw [this]; exact bl_res q
theorem cmp_isnot : OpD W X (compareOp .IsNot) (fun x y => (cmpD .IsNot x y).map fun b => .fr (.bl b)) := by
  intro pins s σ H v w u1 u2 Q I r1 r2 ⟨x, y, t, h1, h2, e, q⟩
  obtain ⟨b, e1, rfl⟩ := map_bl e
  cases y <;> simp only [cmpD] at e1 <;> try (cases e1; done)
  cases h2.nonI
  refine op_notN pins s σ H v _ u1 u2 Q I r1 r2 ⟨rfl, ?_⟩
  have : (!decide (v = .non)) = b := by
    cases h1 with
    | rep r => cases r <;> simp at e1 <;> subst e1 <;> simp
    | lst _ _ => simp at e1; subst e1; simp
    | dic _ _ _ => simp at e1; subst e1; simp
    | ins _ _ _ => simp at e1; subst e1; simp
  rw [this]; exact bl_res q
theorem flat_V {H : Hp} {x : D} {v : V} (e : x.flat = true) (h : WRep W H x v) : flatV v = true := by
  cases x <;> simp only [D.flat, Bool.false_eq_true] at e
  · cases h.nonI; rfl
  · cases h.blI; rfl
  · cases h.intI; rfl
  · cases h.strI; rfl
theorem flat_eqV {H : Hp} {x y : D} {v w : V} (e1 : x.flat = true) (e2 : y.flat = true) (h1 : WRep W H x v) (h2 : WRep W H y w) : eqV v w = D.eqv x y := by
  cases x <;> simp only [D.flat, Bool.false_eq_true] at e1 <;> cases y <;> simp only [D.flat, Bool.false_eq_true] at e2 <;>
    (first | cases h1.nonI | cases h1.blI | cases h1.intI | cases h1.strI) <;> (first | cases h2.nonI | cases h2.blI | cases h2.intI | cases h2.strI) <;> simp [eqV, D.eqv, D.py, PyData.eqv]
theorem flats_V {H : Hp} : ∀ {ds : List D} {vs : List V}, ds.all D.flat = true → Reps W H ds vs → vs.all flatV = true
  | _, _, _, .nil => rfl
  | _, _, e, .cons h r => by
    simp only [List.all_cons, Bool.and_eq_true] at e ⊢
    exact ⟨flat_V e.1 (.rep h), flats_V e.2 r⟩
theorem flats_in {H : Hp} {x : D} {v : V} (e1 : x.flat = true) (h1 : WRep W H x v) : ∀ {ds : List D} {vs : List V}, ds.all D.flat = true → Reps W H ds vs → inV v vs = ds.any fun z => D.eqv z x
  | _, _, _, .nil => rfl
  | _, _, e, .cons h r => by
    simp only [List.all_cons, Bool.and_eq_true] at e
    have ih := flats_in e1 h1 e.2 r
    unfold inV at ih ⊢
    rw [List.any_cons, List.any_cons, flat_eqV e.1 e1 (.rep h) h1, ih]
theorem any_pys {x : D} : ∀ ds : List D, (D.pys ds).any (fun z => PyData.eqv z x.py) = ds.any fun z => D.eqv z x
  | [] => by simp [D.pys]
  | d :: ds => by simp only [D.pys, List.any_cons, any_pys ds, D.eqv]
theorem cmp_inG (hK : X.K = W.K) (hu : X.A.units + 300 < cLine) {pins : List (Addr × Obj)} {σ : L2.St} {s : Shared} {H : Hp} {v w : V} {u1 u2 : Value} {x y : D} {b : Bool} {Q : VK}
    (I : Inv X pins σ H s) (r1 : RelV v u1) (r2 : RelV w u2) (h1 : WRep W H x v) (h2 : WRep W H y w) (e : inD x y = some b) :
    (Q (.bl b) H → wpAny (model X.prog X.w) X.A (compareOp .In u1 u2) (EP X pins σ Q) X.xe s) ∧ (Q (.bl (!b)) H → wpAny (model X.prog X.w) X.A (compareOp .NotIn u1 u2) (EP X pins σ Q) X.xe s) := by
  cases y <;> simp only [inD] at e <;> try (cases e; done)
  · -- a text
    rename_i z
    cases x <;> simp only at e <;> try (cases e; done)
    rename_i c
    split at e
    · rename_i hl
      cases e
      cases h1.strI
      cases h2.strI
      obtain ⟨⟨l⟩⟩ := c
      have hl' : l.length = 1 := by simpa [Str.length] using hl
      obtain ⟨k, rfl⟩ := List.length_eq_one_iff.mp hl'
      constructor
      · intro q
        exact op_in_sign pins s σ H _ _ u1 u2 Q I r1 r2 ⟨k, z, rfl, rfl, by simpa using q⟩
      · intro q
        exact op_notIn_sign pins s σ H _ _ u1 u2 Q I r1 r2 ⟨k, z, rfl, rfl, by simpa using q⟩
    · cases e
  · -- a tuple
    rename_i ys
    split at e
    · rename_i hc
      cases e
      obtain ⟨a, vs, rfl, ha, ra⟩ := h2.tupI
      rw [← hK] at ha
      by_cases hf : (x.flat && ys.all D.flat) = true
      · have hf2 := Bool.and_eq_true_iff.mp hf
        have e2 := flats_in hf2.1 h1 hf2.2 ra
        constructor
        · intro q
          exact op_in_seq pins s σ H _ _ u1 u2 Q I r1 r2 ⟨a, vs, rfl, .inr ha, flat_V hf2.1 h1, flats_V hf2.2 ra, by simpa [e2] using q⟩
        · intro q
          exact op_notIn_seq pins s σ H _ _ u1 u2 Q I r1 r2 ⟨a, vs, rfl, .inr ha, flat_V hf2.1 h1, flats_V hf2.2 ra, by simpa [e2] using q⟩
      · have hf' : (x.flat && ys.all D.flat) = false := by simpa using hf
        rw [hf'] at hc
        simp only [Bool.false_or, Bool.and_eq_true] at hc
        obtain ⟨as, rd⟩ := Dp.reads I _ _ u1 (hK ▸ wplain_dp hc.1 h1) r1
        have dp : Dp X.K H (.ref a) (.tuple (D.pys ys)) := .tup ha (hK ▸ plains_dp hc.2 ra)
        obtain ⟨bs, rd2⟩ := Dp.reads I _ _ u2 dp r2
        obtain ⟨l1, l2⟩ := plain_lay hc.1
        obtain ⟨m1, m2⟩ := plains_lay hc.2
        have hm := Nat.min_le_right (PyData.depthAll (D.pys ys)) x.py.depth
        constructor
        · intro q
          exact SeqAt.in_tuple_reads rd2 rd m1 l1 (by omega) ⟨.bl _, H, I, rfl, by rw [any_pys]; exact q⟩
        · intro q
          exact SeqAt.notIn_tuple_reads rd2 rd m1 l1 (by omega) ⟨.bl _, H, I, rfl, by rw [any_pys]; exact q⟩
    · cases e
  · -- a list
    rename_i ys
    split at e
    · rename_i hc
      cases e
      obtain ⟨a, vs, rfl, ha, ra⟩ := h2.lstI
      rw [← hK] at ha
      by_cases hf : (x.flat && ys.all D.flat) = true
      · have hf2 := Bool.and_eq_true_iff.mp hf
        have e2 := flats_in hf2.1 h1 hf2.2 ra
        constructor
        · intro q
          exact op_in_seq pins s σ H _ _ u1 u2 Q I r1 r2 ⟨a, vs, rfl, .inl ha, flat_V hf2.1 h1, flats_V hf2.2 ra, by simpa [e2] using q⟩
        · intro q
          exact op_notIn_seq pins s σ H _ _ u1 u2 Q I r1 r2 ⟨a, vs, rfl, .inl ha, flat_V hf2.1 h1, flats_V hf2.2 ra, by simpa [e2] using q⟩
      · have hf' : (x.flat && ys.all D.flat) = false := by simpa using hf
        rw [hf'] at hc
        simp only [Bool.false_or, Bool.and_eq_true] at hc
        obtain ⟨as, rd⟩ := Dp.reads I _ _ u1 (hK ▸ wplain_dp hc.1 h1) r1
        have dp : Dp X.K H (.ref a) (.list (D.pys ys)) := .lst ha (hK ▸ plains_dp hc.2 ra)
        obtain ⟨bs, rd2⟩ := Dp.reads I _ _ u2 dp r2
        obtain ⟨l1, l2⟩ := plain_lay hc.1
        obtain ⟨m1, m2⟩ := plains_lay hc.2
        have hm := Nat.min_le_right (PyData.depthAll (D.pys ys)) x.py.depth
        constructor
        · intro q
          exact SeqAt.in_list_reads rd2 rd m1 l1 (by omega) ⟨.bl _, H, I, rfl, by rw [any_pys]; exact q⟩
        · intro q
          exact SeqAt.notIn_list_reads rd2 rd m1 l1 (by omega) ⟨.bl _, H, I, rfl, by rw [any_pys]; exact q⟩
    · cases e
theorem cmp_ord {op : CmpOp} {p : Int → Int → Bool} (ho : OpR X (compareOp op) (rI0 fun i j => .bl (p i j))) (hp : ∀ x y b, cmpD op x y = some b → ∃ i j, x = .int i ∧ y = .int j ∧ b = p i j) :
    OpD W X (compareOp op) (fun x y => (cmpD op x y).map fun b => .fr (.bl b)) := by
  intro pins s σ H v w u1 u2 Q I r1 r2 ⟨x, y, t, h1, h2, e, q⟩
  obtain ⟨b, e1, rfl⟩ := map_bl e
  obtain ⟨i, j, rfl, rfl, rfl⟩ := hp x y b e1
  cases h1.intI; cases h2.intI
  exact ho pins s σ H _ _ u1 u2 Q I r1 r2 ⟨i, j, rfl, rfl, bl_res q⟩
theorem cmp_all (hK : X.K = W.K) (hu : X.A.units + 300 < cLine) : ∀ op, OpD W X (compareOp op) (fun x y => (cmpD op x y).map fun b => .fr (.bl b)) := by
  intro op
  cases op
  case Eq => exact cmp_eq hK hu
  case NotEq => exact cmp_ne hK hu
  case Is => exact cmp_is
  case IsNot => exact cmp_isnot
  case Lt => exact cmp_ord op_lt fun x y b e => by cases x <;> cases y <;> simp [cmpD] at e; exact ⟨_, _, rfl, rfl, e.symm⟩
  case LtE => exact cmp_ord op_le fun x y b e => by cases x <;> cases y <;> simp [cmpD] at e; exact ⟨_, _, rfl, rfl, e.symm⟩
  case Gt => exact cmp_ord op_gt fun x y b e => by cases x <;> cases y <;> simp [cmpD] at e; exact ⟨_, _, rfl, rfl, e.symm⟩
  case GtE => exact cmp_ord op_ge fun x y b e => by cases x <;> cases y <;> simp [cmpD] at e; exact ⟨_, _, rfl, rfl, e.symm⟩
  case In =>
    intro pins s σ H v w u1 u2 Q I r1 r2 ⟨x, y, t, h1, h2, e, q⟩
    obtain ⟨b, e1, rfl⟩ := map_bl e
    exact (cmp_inG hK hu I r1 r2 h1 h2 e1).1 (bl_res q)
  case NotIn =>
    intro pins s σ H v w u1 u2 Q I r1 r2 ⟨x, y, t, h1, h2, e, q⟩
    obtain ⟨b, e1, rfl⟩ := map_bl e
    simp only [cmpD] at e1
    obtain ⟨b', e2, rfl⟩ := Option.map_eq_some_iff.mp e1
    exact (cmp_inG hK hu I r1 r2 h1 h2 e2).2 (bl_res q)
/-- truth -/
theorem truth_V {H : Hp} {x : D} {v : V} {k : Bool} (hK : X.K = W.K) (e : x.truth = some k) (h : WRep W H x v) : TruV X.K v H k := by
  cases x <;> simp only [D.truth, Option.some.injEq, reduceCtorEq] at e
  · cases h.nonI; exact e.symm
  · cases h.blI; exact e.symm
  · cases h.intI; exact e.symm
  · rename_i s
    cases h.strI
    split at e
    · rename_i hf
      refine ⟨fits_le hf, ?_⟩
      rw [← Option.some.inj e]
      simp only [bne]
      by_cases z : s.length = 0 <;> simp [z]
    · cases e
  · obtain ⟨a, vs, rfl, ha, ra⟩ := h.tupI
    refine .inr (.inl ⟨vs, hK ▸ ha, ?_⟩)
    rw [← e]; cases ra <;> rfl
  · obtain ⟨a, vs, rfl, ha, ra⟩ := h.lstI
    refine .inl ⟨vs, hK ▸ ha, ?_⟩
    rw [← e]; cases ra <;> rfl
end
end Eg
set_option Elab.async false
set_option linter.all false
set_option maxRecDepth 100000
set_option maxHeartbeats 4000000
/-! the engine: expressions, construct by construct -/
namespace Eg
open PySem PySem.Spec PyProof.Rows L2

structure GX (W : Wd) (Wx : WX) (X : Cx) : Prop where
  hK : X.K = W.K
  calm : X.calm = true
  nd : X.N.Nodup
  tk : Takes X Wx
  hu : X.A.units + 300 < cLine
  hg : X.A.guards = some []

section
variable {W : Wd} {Wx : WX} {X : Cx} {pos : Pos}
theorem set_same {σ : L2.St} {i : Nat} {o : Option V} (h : σ[i]? = some o) : σ.set i o = σ := by
  apply List.ext_getElem?
  intro j
  by_cases z : i = j
  · subst z; rw [List.getElem?_set_self (List.getElem?_eq_some_iff.mp h).1, h]
  · rw [List.getElem?_set_ne z]
theorem Rel.val {C : Fx} {ρ : Env} {σ : L2.St} {H : Hp} {i : Nat} {d : D} (h : Rel W C ρ σ H) (e : ρ[i]? = some (.val d)) : ∃ v, σ[i]? = some (some v) ∧ Rep W H d v := by
  obtain ⟨fp, h⟩ := h
  obtain ⟨o, f1, f2, f3, h1, _, h3, _⟩ := h.slots.at e
  cases h3 with
  | val r => exact ⟨_, h1, r⟩
theorem Rel.ownAt {C : Fx} {ρ : Env} {σ : L2.St} {H : Hp} {i : Nat} {t : T} (h : Rel W C ρ σ H) (e : ρ[i]? = some (.own t)) : ∃ v fp, σ[i]? = some (some v) ∧ Own W H t v fp := by
  obtain ⟨fp, h⟩ := h
  obtain ⟨o, f1, f2, f3, h1, _, h3, _⟩ := h.slots.at e
  cases h3 with
  | own r => exact ⟨_, _, h1, r⟩

theorem sb_const {e : Expr} {v : V} {d : D} (h : PE X e (tC v)) (r : ∀ H, Rep W H d v) : PE X e (tE W Wx fun ρ => .ok (.fr d) ρ) :=
  h.mono fun σ H Q ⟨C, ρ, rel, q⟩ => q v H (Ext.refl H) (rel.relT (r H))
theorem sb_var {i : Nat} {x : Str} (hN : X.N[i]? = some x) (hv : Vis X.env.scope x) (hd : (x == ("__debug__" : Str)) = false) (hcd : (x == ("__classdict__" : Str)) = false) {S : Stat} {R : D → Option Str} {F : Nat → Env → OutF} :
    PE X (.Name x pos) (tE W Wx fun ρ => evE S R F (.var i) ρ) := by
  refine ⟨fun pins s σ H Q I ⟨C, ρ, rel, q⟩ => ?_⟩
  simp only [evE] at q
  cases e : ρ[i]? with
  | none => rw [e] at q; exact q.elim
  | some sl =>
    rw [e] at q
    cases sl with
    | unb => exact q.elim
    | val d =>
      obtain ⟨v, h1, h2⟩ := rel.val e
      exact (pe_var hN hv hd hcd).run pins s σ H Q I ⟨v, h1, q v H (Ext.refl H) (rel.relT h2)⟩
    | own t =>
      obtain ⟨v, H', h1, I', ex, rl, rp⟩ := rel.freezeAt I e
      exact (pe_var hN hv hd hcd).run pins s σ H' Q I' ⟨v, h1, q v H' ex (rl.relT rp)⟩
theorem sb_bvar {i : Nat} {x : Str} (hN : X.N[i]? = some x) (hv : Vis X.env.scope x) (hd : (x == ("__debug__" : Str)) = false) (hcd : (x == ("__classdict__" : Str)) = false) :
    PE X (.Name x pos) (tBo W Wx fun ρ => lookV ρ i) := by
  refine ⟨fun pins s σ H Q I ⟨C, ρ, rel, q⟩ => ?_⟩
  simp only [lookV] at q
  cases e : ρ[i]? with
  | none => rw [e] at q; exact q.elim
  | some sl =>
    rw [e] at q
    cases sl with
    | unb => exact q.elim
    | val d =>
      obtain ⟨v, h1, h2⟩ := rel.val e
      exact (pe_var hN hv hd hcd).run pins s σ H Q I ⟨v, h1, q v H (Ext.refl H) rel ⟨[], .fr h2⟩⟩
    | own t =>
      obtain ⟨v, fp, h1, h2⟩ := rel.ownAt e
      exact (pe_var hN hv hd hcd).run pins s σ H Q I ⟨v, h1, q v H (Ext.refl H) rel ⟨fp, h2⟩⟩

/-- the ways out of wE -/
theorem wE_x {C : Fx} {σ : L2.St} {Q : VK} : ∀ d ρ H, wE W C Wx (.exc d ρ) σ H Q → xWay W C Wx d ρ σ H := fun _ _ _ h => h
theorem wE_b {C : Fx} {σ : L2.St} {Q : VK} : ∀ H, ¬ wE W C Wx .bad σ H Q := fun _ h => h
theorem wE_m {C : Fx} {σ : L2.St} {Q : VK} : ∀ o H H1, Ext H H1 → wE W C Wx o σ H Q → wE W C Wx o σ H1 Q := fun _ _ _ e h => wE.mono e h
theorem wT_x {C : Fx} {σ : L2.St} {Q : Bool → Hp → Prop} : ∀ d ρ H, wT W C Wx (.exc d ρ) σ H Q → xWay W C Wx d ρ σ H := fun _ _ _ h => h
theorem wT_b {C : Fx} {σ : L2.St} {Q : Bool → Hp → Prop} : ∀ H, ¬ wT W C Wx .bad σ H Q := fun _ h => h
theorem wT_m {C : Fx} {σ : L2.St} {Q : Bool → Hp → Prop} : ∀ o H H1, Ext H H1 → wT W C Wx o σ H Q → wT W C Wx o σ H1 Q := fun _ _ _ e h => wT.mono e h
theorem wDs_x {C : Fx} {σ : L2.St} {Q : List V → Hp → Prop} : ∀ d ρ H, wDs W C Wx (.exc d ρ) σ H Q → xWay W C Wx d ρ σ H := fun _ _ _ h => h
theorem wDs_b {C : Fx} {σ : L2.St} {Q : List V → Hp → Prop} : ∀ H, ¬ wDs W C Wx .bad σ H Q := fun _ h => h
theorem wDs_m {C : Fx} {σ : L2.St} {Q : List V → Hp → Prop} : ∀ o H H1, Ext H H1 → wDs W C Wx o σ H Q → wDs W C Wx o σ H1 Q := fun _ _ _ e h => wDs.mono e h

variable {a b c : Expr} {ea eb ec : Env → Out D}
theorem sb_op {f : Value → Value → Sem Value} {op : D → D → Option T} {E : Expr} (ho : OpD W X f op)
    (hE : ∀ {r : R2} {ta tb : TE}, OpR X f r → PE X a ta → PE X b tb → PE X E (tOp r ta tb)) (ha : PE X a (tD W Wx ea)) (hb : PE X b (tD W Wx eb)) :
    PE X E (tE W Wx fun ρ => (ea ρ).bind fun x ρ => (eb ρ).bind fun y ρ => Out.of ρ (op x y)) := by
  refine (hE ho ha hb).mono fun σ H Q ⟨C, ρ, rel, q⟩ => ⟨C, ρ, rel, ?_⟩
  refine wD_bind wE_x wE_b wE_m q fun x ρ1 v H1 e1 r1 p1 q1 => ⟨C, ρ1, r1, ?_⟩
  refine wD_bind wE_x wE_b wE_m q1 fun y ρ2 w H2 e2 r2 p2 q2 => ?_
  cases eo : op x y with
  | none => rw [eo] at q2; exact q2.elim
  | some t =>
    rw [eo] at q2
    exact ⟨x, y, t, .rep (p1.ext e2), .rep p2, eo, fun u H3 rs => let ⟨k1, k2⟩ := rs.rel r2; q2 u H3 k1 k2⟩
theorem sb_bin {op : Operator} (g : GX W Wx X) (ha : PE X a (tD W Wx ea)) (hb : PE X b (tD W Wx eb)) :
    PE X (.BinOp a op b pos) (tE W Wx fun ρ => (ea ρ).bind fun x ρ => (eb ρ).bind fun y ρ => Out.of ρ (binD op x y)) :=
  sb_op (bin_all g.hK op) (fun h1 h2 h3 => pe_op h1 h2 h3) ha hb
theorem sb_neg (ha : PE X a (tD W Wx ea)) : PE X (.UnaryOp .USub a pos) (tE W Wx fun ρ => bindI (ea ρ) fun i ρ => .ok (.fr (.int (-i))) ρ) := by
  refine (pe_un un_neg ha).mono fun σ H Q ⟨C, ρ, rel, q⟩ => ⟨C, ρ, rel, ?_⟩
  refine wD_bind wE_x wE_b wE_m q fun x ρ1 v H1 e1 r1 p1 q1 => ?_
  cases x with
  | int i => cases p1; exact ⟨i, rfl, q1 _ H1 (Ext.refl _) (r1.relT (.int _))⟩
  | _ => exact q1.elim
theorem nomarks {op : CmpOp} (h : ∀ elts k p, b ≠ .Set elts k p) : behindInMarks op b = false := by
  cases b <;> first | rfl | exact absurd rfl (h _ _ _)
/-- a comparison: the right side is looked at alone -/
theorem sb_cmp {op : CmpOp} {eb : Env → Out T} (g : GX W Wx X) (hm : behindInMarks op b = false) (ha : PE X a (tD W Wx ea)) (hb : PE X b (tBo W Wx eb)) :
    PE X (.Compare a [op] [b] pos) (tE W Wx fun ρ => (ea ρ).bind fun x ρ => (eb ρ).bind fun y ρ => Out.of ρ ((y.shal.bind fun y => cmpD op x y).map fun b => .fr (.bl b))) := by
  refine (pe_cmpR (cmp_all g.hK g.hu op) ha hb hm).mono fun σ H Q ⟨C, ρ, rel, q⟩ => ⟨C, ρ, rel, ?_⟩
  refine wD_bind wE_x wE_b wE_m q fun x ρ1 v H1 e1 r1 p1 q1 => ⟨C, ρ1, r1, ?_⟩
  refine wB_bind wE_x wE_b wE_m q1 fun y ρ2 w H2 e2 r2 ⟨fp, p2⟩ q2 => ?_
  cases es : y.shal with
  | none => rw [es] at q2; exact q2.elim
  | some y' =>
    simp only [es, Option.bind_some] at q2
    cases eo : cmpD op x y' with
    | none => rw [eo] at q2; exact q2.elim
    | some t =>
      rw [eo] at q2
      exact ⟨x, y', .fr (.bl t), .rep (p1.ext e2), shal_wrep es p2, by show Option.map _ (cmpD op x y') = _; rw [eo]; rfl, fun u H3 rs => let ⟨k1, k2⟩ := rs.rel r2; q2 u H3 k1 k2⟩
theorem sb_cmpT {op : CmpOp} {eb : Env → Out T} (g : GX W Wx X) (hm : behindInMarks op b = false) (ha : PE X a (tD W Wx ea)) (hb : PE X b (tBo W Wx eb)) :
    PT X (.Compare a [op] [b] pos) (tTe W Wx fun ρ => (freezeO ((ea ρ).bind fun x ρ => (eb ρ).bind fun y ρ => Out.of ρ ((y.shal.bind fun y => cmpD op x y).map fun b => .fr (.bl b)))).bind fun x ρ => Out.of ρ x.truth) := by
  refine (pt_cmpR (cmp_all g.hK g.hu op) ha hb hm).mono fun σ H Q ⟨C, ρ, rel, q⟩ => ⟨C, ρ, rel, ?_⟩
  cases eo : ea ρ with
  | bad => simp only [eo, Out.bind, freezeO] at q; exact q.elim
  | exc d ρ1 => simp only [eo, Out.bind, freezeO] at q; exact q
  | ok x ρ1 =>
    simp only [eo, Out.bind] at q
    intro v H1 e1 r1 p1
    refine ⟨C, ρ1, r1, ?_⟩
    cases eo2 : eb ρ1 with
    | bad => simp only [eo2, Out.bind, freezeO] at q; exact q.elim
    | exc d ρ2 => simp only [eo2, Out.bind, freezeO] at q; exact xWay.mono e1 q
    | ok y ρ2 =>
      simp only [eo2] at q
      intro w H2 e2 r2 ⟨fp, p2⟩
      cases es : y.shal with
      | none => simp only [es, Option.bind_none, Option.map_none, Out.of, freezeO, Out.bind] at q; exact q.elim
      | some y' =>
        simp only [es, Option.bind_some] at q
        cases ec : cmpD op x y' with
        | none => simp only [ec, Option.map_none, Out.of, freezeO, Out.bind] at q; exact q.elim
        | some t =>
          simp only [ec, Option.map_some, Out.of, freezeO, Out.bind, T.toD, D.truth] at q
          refine ⟨x, y', .fr (.bl t), .rep (p1.ext e2), shal_wrep es p2, by show Option.map _ (cmpD op x y') = _; rw [ec]; rfl, fun u H3 rs => ?_⟩
          rcases rs with ⟨rfl, d, e, rp⟩ | ⟨p, o, _, _, _, rfl, ⟨d, e, rp⟩ | rp⟩
          · cases e; cases rp
            exact ⟨t, rfl, q _ (e1.trans e2) r2⟩
          · cases e; cases rp
          · cases rp
/-- a test by the value's truth -/
theorem sb_truth (g : GX W Wx X) (ha : PE X a (tD W Wx ea)) (he : ∀ whole, isTrue a X.env whole = (do let v ← whole; standAt a.pos; holding [v] (truthy v))) :
    PT X a (tTe W Wx fun ρ => (ea ρ).bind fun x ρ => Out.of ρ x.truth) := by
  refine (pt_truth ha he).mono fun σ H Q ⟨C, ρ, rel, q⟩ => ⟨C, ρ, rel, ?_⟩
  refine wD_bind wT_x wT_b wT_m q fun x ρ1 v H1 e1 r1 p1 q1 => ?_
  cases et : x.truth with
  | none => rw [et] at q1; exact q1.elim
  | some k => rw [et] at q1; exact ⟨k, truth_V g.hK et (.rep p1), q1 H1 (Ext.refl _) r1⟩
variable {ta tb : Env → Out Bool} {rest : List Expr}
theorem sb_notT (ha : PT X a (tTe W Wx ta)) : PT X (.UnaryOp .Not a pos) (tTe W Wx fun ρ => (ta ρ).bind fun b ρ => .ok (!b) ρ) := by
  refine (pt_not ha).mono fun σ H Q ⟨C, ρ, rel, q⟩ => ⟨C, ρ, rel, ?_⟩
  exact wT_bind wT_x wT_b wT_m q fun k ρ1 H1 e1 r1 q1 => q1 H1 (Ext.refl _) r1
theorem sb_andT (ha : PT X a (tTe W Wx ta)) (hb : PW X (.BoolOp .And (b :: rest) pos) (tTe W Wx tb)) : PW X (.BoolOp .And (a :: b :: rest) pos) (tTe W Wx fun ρ => (ta ρ).bind fun k ρ => if k then tb ρ else .ok false ρ) := by
  refine ⟨fun wh pins s σ H Q I ⟨C, ρ, rel, q⟩ => (pw_and ha hb).run wh pins s σ H Q I ⟨C, ρ, rel, ?_⟩⟩
  refine wT_bind wT_x wT_b wT_m q fun k ρ1 H1 e1 r1 q1 => ?_
  cases k with
  | true => exact ⟨C, ρ1, r1, q1⟩
  | false => exact q1 H1 (Ext.refl _) r1
theorem sb_orT (ha : PT X a (tTe W Wx ta)) (hb : PW X (.BoolOp .Or (b :: rest) pos) (tTe W Wx tb)) : PW X (.BoolOp .Or (a :: b :: rest) pos) (tTe W Wx fun ρ => (ta ρ).bind fun k ρ => if k then .ok true ρ else tb ρ) := by
  refine ⟨fun wh pins s σ H Q I ⟨C, ρ, rel, q⟩ => (pw_or ha hb).run wh pins s σ H Q I ⟨C, ρ, rel, ?_⟩⟩
  refine wT_bind wT_x wT_b wT_m q fun k ρ1 H1 e1 r1 q1 => ?_
  cases k with
  | true => exact q1 H1 (Ext.refl _) r1
  | false => exact ⟨C, ρ1, r1, q1⟩
/-- not a, as a value -/
theorem sb_not (g : GX W Wx X) (ha : PE X a (tD W Wx ea)) : PE X (.UnaryOp .Not a pos) (tE W Wx fun ρ => (ea ρ).bind fun x ρ => Out.of ρ (x.truth.map fun b => .fr (.bl (!b)))) := by
  refine (pe_notT ha).mono fun σ H Q ⟨C, ρ, rel, q⟩ => ⟨C, ρ, rel, ?_⟩
  refine wD_bind wE_x wE_b wE_m q fun x ρ1 v H1 e1 r1 p1 q1 => ?_
  cases et : x.truth with
  | none => rw [et] at q1; exact q1.elim
  | some k =>
    rw [et] at q1
    exact ⟨k, truth_V g.hK et (.rep p1), q1 _ H1 (Ext.refl _) (r1.relT (.bl _))⟩
variable {va vb vc : Env → Out T}
theorem sb_ite (hc : PT X c (tTe W Wx ta)) (ha : PE X a (tE W Wx va)) (hb : PE X b (tE W Wx vb)) : PE X (.IfExp c a b pos) (tE W Wx fun ρ => (ta ρ).bind fun k ρ => if k then va ρ else vb ρ) := by
  refine (pe_ifExp hc ha hb).mono fun σ H Q ⟨C, ρ, rel, q⟩ => ⟨C, ρ, rel, ?_⟩
  refine wT_bind wE_x wE_b wE_m q fun k ρ1 H1 e1 r1 q1 => ?_
  cases k with
  | true => exact ⟨C, ρ1, r1, q1⟩
  | false => exact ⟨C, ρ1, r1, q1⟩
theorem sb_and (g : GX W Wx X) (ha : PE X a (tD W Wx ea)) (hb : PE X (.BoolOp .And (b :: rest) pos) (tE W Wx vb)) : PE X (.BoolOp .And (a :: b :: rest) pos) (tE W Wx fun ρ => (ea ρ).bind fun x ρ => match x.truth with
    | some true => vb ρ
    | some false => .ok (.fr x) ρ
    | none => .bad) := by
  refine (pe_andT ha hb).mono fun σ H Q ⟨C, ρ, rel, q⟩ => ⟨C, ρ, rel, ?_⟩
  refine wD_bind wE_x wE_b wE_m q fun x ρ1 v H1 e1 r1 p1 q1 => ?_
  cases et : x.truth with
  | none => rw [et] at q1; exact q1.elim
  | some k =>
    rw [et] at q1
    refine ⟨k, truth_V g.hK et (.rep p1), ?_⟩
    cases k with
    | true => exact ⟨C, ρ1, r1, q1⟩
    | false => exact q1 v H1 (Ext.refl _) (r1.relT p1)
theorem sb_or (g : GX W Wx X) (ha : PE X a (tD W Wx ea)) (hb : PE X (.BoolOp .Or (b :: rest) pos) (tE W Wx vb)) : PE X (.BoolOp .Or (a :: b :: rest) pos) (tE W Wx fun ρ => (ea ρ).bind fun x ρ => match x.truth with
    | some true => .ok (.fr x) ρ
    | some false => vb ρ
    | none => .bad) := by
  refine (pe_orT ha hb).mono fun σ H Q ⟨C, ρ, rel, q⟩ => ⟨C, ρ, rel, ?_⟩
  refine wD_bind wE_x wE_b wE_m q fun x ρ1 v H1 e1 r1 p1 q1 => ?_
  cases et : x.truth with
  | none => rw [et] at q1; exact q1.elim
  | some k =>
    rw [et] at q1
    refine ⟨k, truth_V g.hK et (.rep p1), ?_⟩
    cases k with
    | true => exact q1 v H1 (Ext.refl _) (r1.relT p1)
    | false => exact ⟨C, ρ1, r1, q1⟩
end
end Eg
set_option Elab.async false
set_option linter.all false
set_option maxRecDepth 100000
set_option maxHeartbeats 4000000
/-! the engine: an object that is being made while parts are reckoned; displays, argument lists, built-in calls -/
namespace Eg
open PySem PySem.Spec PyProof.Rows L2

section
variable {W : Wd} {C : Fx} {ρ : Env} {σ : L2.St} {H : Hp} {fp : List Addr} {p : Addr} {o o0 : HO}
/-- steps from here on: their ground is the heap as it is -/
theorem RelP.base {ex : List Addr} (h : RelP W C ρ σ H fp ex) : Rel W ⟨H, fp, C.fix⟩ ρ σ H :=
  ⟨fp, h.slots, by simpa using (List.nodup_append.mp h.nd).1, fun a m => .inl (by simpa using m), fun _ _ e _ _ => e, fun _ e => e, h.fix, h.tabs⟩
theorem RelP.back {ex : List Addr} (h : RelP W C ρ σ H fp ex) (lv : ∀ a ∈ ex, Live H a) {ρ2 : Env} {σ2 : L2.St} {H2 : Hp} (r : Rel W ⟨H, fp, C.fix⟩ ρ2 σ2 H2) :
    (∀ a ∈ ex, H2 a = H a) ∧ ∃ fp2, RelP W C ρ2 σ2 H2 fp2 ex := by
  obtain ⟨fp2, r⟩ := r
  obtain ⟨n1, n2, n3⟩ := List.nodup_append.mp h.nd
  have ke : ∀ a ∈ ex, H2 a = H a := fun a m => by
    have hn : a ∉ fp := fun z => n3 a z a m rfl
    rcases lv a m with ⟨_, e⟩ | ⟨_, e⟩ | ⟨_, _, _, e⟩ <;> rw [e] <;> exact r.frame a _ e hn (fun _ z => nomatch z)
  refine ⟨ke, fp2, r.slots, ?_, fun a m => ?_, fun b u q n nt => ?_, fun b q => r.dom b (h.dom b q), r.fix, r.tabs⟩
  · refine List.nodup_append.mpr ⟨by simpa using r.nd, n2, fun a m b m2 z => ?_⟩
    subst z
    rcases r.own a (by simp [m]) with y | y
    · exact n3 a y a m2 rfl
    · obtain ⟨u, e, _⟩ := (lv a m2).some
      have y : H a = none := y
      rw [e] at y; cases y
  · rcases List.mem_append.mp m with m | m
    · rcases r.own a (by simp [m]) with y | y
      · exact h.own a (by simp [y])
      · exact .inr (h.fresh y)
    · exact h.own a (by simp [m])
  · refine r.frame b u (h.frame b u q n nt) (fun z => ?_) nt
    rcases h.own b (by simp [z]) with y | y
    · exact n y
    · rw [q] at y; cases y
/-- a new object, open for what comes -/
theorem Rel.opened (h : Rel W C ρ σ H) (hp : H p = none) (nt : ∀ ps, o ≠ .tbl ps) : ∃ fp, RelP W C ρ σ (upd H p o) fp [p] := by
  obtain ⟨fp, h⟩ := h
  have h2 := h.new hp nt
  refine ⟨fp, h2.slots, ?_, fun a m => ?_, h2.frame, h2.dom, h2.fix, h2.tabs⟩
  · refine List.nodup_append.mpr ⟨by simpa using h.nd, by simp, fun a m b m2 => ?_⟩
    have e : b = p := by simpa using m2
    subst e
    obtain ⟨u, q, _⟩ := (h.slots.live a m).some
    exact ne_of_none q hp
  · rcases List.mem_append.mp m with m | m
    · exact h.own a (by simp [m])
    · have e : a = p := by simpa using m
      rw [e]; exact .inr (h.fresh hp)
/-- it is written -/
theorem RelP.write {ex : List Addr} (h : RelP W C ρ σ H fp ex) (hp : p ∈ ex) (lv : Live H p) (nt : ∀ ps, o ≠ .tbl ps) : RelP W C ρ σ (upd H p o) fp ex := by
  have e : Ext H (upd H p o) := Ext.upd lv
  obtain ⟨n1, n2, n3⟩ := List.nodup_append.mp h.nd
  refine ⟨h.slots.ext e fun a m => upd_ne (n3 a m p hp), h.nd, h.own, fun b u q n nt' => ?_, fun b q => ?_, h.fix, Tabs.keep h.tabs e fun b ps q => ?_⟩
  · have hb : b ≠ p := fun z => by
      rcases h.own p (by simp [hp]) with y | y
      · exact n (z ▸ y)
      · rw [z, y] at q; cases q
    rw [upd_ne hb]; exact h.frame b u q n nt'
  · by_cases z : b = p
    · rw [z, upd_same]; exact fun z => nomatch z
    · rw [upd_ne z]; exact h.dom b q
  · rw [upd_ne fun z => ?_]; exact q
    rw [z] at q
    rcases lv with ⟨_, y⟩ | ⟨_, y⟩ | ⟨_, _, _, y⟩ <;> rw [q] at y <;> cases y
theorem RelP.close {t : T} {v : V} {ft : List Addr} (h : RelP W C ρ σ H fp ft) (q : Own W H t v ft) : RelT W C ρ σ H t v := ⟨fp, ft, q, h⟩
theorem RelP.plain {ex : List Addr} (h : RelP W C ρ σ H fp ex) : Rel W C ρ σ H := by
  refine ⟨fp, h.slots, by simpa using (List.nodup_append.mp h.nd).1, fun a m => h.own a (by simp at m; simp [m]), h.frame, h.dom, h.fix, h.tabs⟩
end

section
variable {W : Wd} {Wx : WX} {X : Cx} {pos : Pos}
theorem plain_star {e : Expr} {es : List Expr} {env : PySem.Env} (h : ∀ a p, e ≠ .Starred a p) : starEach (e :: es) env = (false, eval e env) :: starEach es env := by
  cases e <;> first | rfl | exact absurd rfl (h _ _)
theorem sb_nil : PA X [] (tDs W Wx fun ρ => .ok [] ρ) :=
  pa_nil.mono fun σ H Q ⟨C, ρ, rel, q⟩ => q [] H (Ext.refl _) rel .nil
theorem sb_cons {e : Expr} {es : List Expr} {ea : Env → Out D} {er : Env → Out (List D)} (hs : ∀ a p, e ≠ .Starred a p) (ha : PE X e (tD W Wx ea)) (hr : PA X es (tDs W Wx er)) :
    PA X (e :: es) (tDs W Wx fun ρ => (ea ρ).bind fun x ρ => (er ρ).bind fun ds ρ => .ok (x :: ds) ρ) := by
  refine (pa_cons ha hr (plain_star hs)).mono fun σ H Q ⟨C, ρ, rel, q⟩ => ⟨C, ρ, rel, ?_⟩
  refine wD_bind wDs_x wDs_b wDs_m q fun x ρ1 v H1 e1 r1 p1 q1 => ⟨C, ρ1, r1, ?_⟩
  refine wDs_bind wDs_x wDs_b wDs_m q1 fun ds ρ2 vs H2 e2 r2 p2 q2 => ?_
  exact q2 (v :: vs) H2 (Ext.refl _) r2 (.cons (p1.ext e2) p2)
variable {es : List Expr} {er : Env → Out (List D)}
theorem sb_tup {k : Nat} (h : PA X es (tDs W Wx er)) : PE X (.Tuple es k pos) (tE W Wx fun ρ => (er ρ).bind fun ds ρ => if fits ds.length then .ok (.fr (.tup ds)) ρ else .bad) := by
  refine (pe_tup h).mono fun σ H Q ⟨C, ρ, rel, q⟩ => ⟨C, ρ, rel, ?_⟩
  refine wDs_bind wE_x wE_b wE_m q fun ds ρ1 vs H1 e1 r1 p1 q1 => ?_
  split at q1
  · rename_i hf
    refine ⟨by rw [← p1.length]; exact fits_le hf, fun p hp => ?_⟩
    obtain ⟨k1, k2⟩ := (ResT.newTup hp p1).rel r1
    exact q1 _ _ k1 k2
  · exact q1.elim
theorem sb_lst (h : PA X es (tDs W Wx er)) : PE X (.List es pos) (tE W Wx fun ρ => (er ρ).bind fun ds ρ => if fits ds.length then .ok (.lst (ds.map .fr)) ρ else .bad) := by
  refine (pe_lst h).mono fun σ H Q ⟨C, ρ, rel, q⟩ => ⟨C, ρ, rel, ?_⟩
  refine wDs_bind wE_x wE_b wE_m q fun ds ρ1 vs H1 e1 r1 p1 q1 => ?_
  split at q1
  · rename_i hf
    refine ⟨by rw [← p1.length]; exact fits_le hf, fun p hp => ?_⟩
    obtain ⟨k1, k2⟩ := (ResT.newLst hp p1).rel r1
    exact q1 _ _ k1 k2
  · exact q1.elim

/-! ### built-in calls -/
/-- a call of a built-in, by what it is on data -/
def CallD (W : Wd) (X : Cx) (f : Value) (op : List D → Option T) : Prop :=
  CallR X f fun vs H Q => ∃ ds t, WReps W H ds vs ∧ op ds = some t ∧ ∀ u H', ResT W H t u H' → Q u H'
theorem wreps1 {H : Hp} {x : D} {vs : List V} (h : WReps W H [x] vs) : ∃ v, vs = [v] ∧ WRep W H x v := by
  cases h with
  | cons h r => cases r; exact ⟨_, rfl, h⟩
theorem wreps2 {H : Hp} {x y : D} {vs : List V} (h : WReps W H [x, y] vs) : ∃ v w, vs = [v, w] ∧ WRep W H x v ∧ WRep W H y w := by
  cases h with
  | cons h r => cases r with
    | cons h2 r => cases r; exact ⟨_, _, rfl, h, h2⟩
theorem bi_one {op : List D → Option T} (h : ∀ ds, op ds ≠ none → ∃ x, ds = [x]) {ds : List D} {t : T} (e : op ds = some t) : ∃ x, ds = [x] := h ds (by rw [e]; exact fun z => nomatch z)
theorem biD1 {R : D → Option Str} {b : Bi} (hb : b = .len ∨ b = .int ∨ b = .abs ∨ b = .list ∨ b = .tuple ∨ b = .repr ∨ b = .all ∨ b = .any ∨ b = .sum) {ds : List D} {t : T} (e : biD R b ds = some t) : ∃ x, ds = [x] := by
  rcases ds with _ | ⟨x, _ | ⟨y, r⟩⟩
  · rcases hb with rfl | rfl | rfl | rfl | rfl | rfl | rfl | rfl | rfl <;> simp [biD] at e
  · exact ⟨x, rfl⟩
  · rcases hb with rfl | rfl | rfl | rfl | rfl | rfl | rfl | rfl | rfl <;> simp [biD] at e
theorem c_len (hK : X.K = W.K) {R : D → Option Str} : CallD W X (.builtin "len") (biD R .len) := by
  intro pins s σ H vs us Q I r ⟨ds, t, w, e, q⟩
  obtain ⟨x, rfl⟩ := biD1 (.inl rfl) e
  obtain ⟨v, rfl, h⟩ := wreps1 w
  simp only [biD] at e
  obtain ⟨n, e1, rfl⟩ := Option.map_eq_some_iff.mp e
  have fin : ∀ m : Nat, LenV X.K v H m → m = n → wpAny (model X.prog X.w) X.A (call (.builtin "len") us) (EP X pins σ Q) X.xe s := fun m h1 h2 => call_len pins s σ H [v] us Q I r ⟨v, m, rfl, h1, by rw [h2]; exact frD q (.int _)⟩
  cases x <;> simp only [lenD, Option.some.injEq, reduceCtorEq] at e1
  · split at e1
    · rename_i hf
      cases h.strI
      exact fin _ ⟨fits_le hf, rfl⟩ (Option.some.inj e1)
    · cases e1
  · obtain ⟨a, xs, rfl, ha, ra⟩ := h.tupI
    exact fin _ (.inr ⟨xs, hK ▸ ha, rfl⟩) (by rw [← ra.length]; exact e1)
  · obtain ⟨a, xs, rfl, ha, ra⟩ := h.lstI
    exact fin _ (.inl ⟨xs, hK ▸ ha, rfl⟩) (by rw [← ra.length]; exact e1)
theorem c_int {R : D → Option Str} : CallD W X (.type "int") (biD R .int) := by
  intro pins s σ H vs us Q I r ⟨ds, t, w, e, q⟩
  obtain ⟨x, rfl⟩ := biD1 (.inr (.inl rfl)) e
  obtain ⟨v, rfl, h⟩ := wreps1 w
  cases x <;> simp only [biD, Option.some.injEq, reduceCtorEq] at e
  · subst e; cases h.blI
    exact call_int1 pins s σ H _ us Q I r (.inr ⟨_, rfl, frD q (.int _)⟩)
  · subst e; cases h.intI
    exact call_int1 pins s σ H _ us Q I r (.inl ⟨_, rfl, frD q (.int _)⟩)
theorem c_abs {R : D → Option Str} : CallD W X (.builtin "abs") (biD R .abs) := by
  intro pins s σ H vs us Q I r ⟨ds, t, w, e, q⟩
  obtain ⟨x, rfl⟩ := biD1 (.inr (.inr (.inl rfl))) e
  obtain ⟨v, rfl, h⟩ := wreps1 w
  cases x <;> simp only [biD, Option.some.injEq, reduceCtorEq] at e
  subst e; cases h.intI
  exact call_abs pins s σ H _ us Q I r ⟨_, rfl, frD q (.int _)⟩
theorem c_list (hK : X.K = W.K) {R : D → Option Str} : CallD W X (.type "list") (biD R .list) := by
  intro pins s σ H vs us Q I r ⟨ds, t, w, e, q⟩
  obtain ⟨x, rfl⟩ := biD1 (.inr (.inr (.inr (.inl rfl)))) e
  obtain ⟨v, rfl, h⟩ := wreps1 w
  simp only [biD] at e
  obtain ⟨xs, e1, rfl⟩ := Option.map_eq_some_iff.mp e
  cases x <;> simp only [D.items, Option.some.injEq, reduceCtorEq] at e1
  · subst e1
    obtain ⟨a, ws, rfl, ha, ra⟩ := h.tupI
    exact call_list_of pins s σ H _ us Q I r ⟨a, ws, rfl, .inr (hK ▸ ha), fun l hl => q _ _ (.newLst hl ra)⟩
  · subst e1
    obtain ⟨a, ws, rfl, ha, ra⟩ := h.lstI
    exact call_list_of pins s σ H _ us Q I r ⟨a, ws, rfl, .inl (hK ▸ ha), fun l hl => q _ _ (.newLst hl ra)⟩
theorem c_tuple (hK : X.K = W.K) {R : D → Option Str} : CallD W X (.type "tuple") (biD R .tuple) := by
  intro pins s σ H vs us Q I r ⟨ds, t, w, e, q⟩
  obtain ⟨x, rfl⟩ := biD1 (.inr (.inr (.inr (.inr (.inl rfl))))) e
  obtain ⟨v, rfl, h⟩ := wreps1 w
  simp only [biD] at e
  obtain ⟨xs, e1, rfl⟩ := Option.map_eq_some_iff.mp e
  cases x <;> simp only [D.items, Option.some.injEq, reduceCtorEq] at e1
  · subst e1
    obtain ⟨a, ws, rfl, ha, ra⟩ := h.tupI
    exact call_tuple_of pins s σ H _ us Q I r ⟨a, ws, rfl, .inr ⟨hK ▸ ha, frD q (.tup ha ra)⟩⟩
  · subst e1
    obtain ⟨a, ws, rfl, ha, ra⟩ := h.lstI
    exact call_tuple_of pins s σ H _ us Q I r ⟨a, ws, rfl, .inl ⟨hK ▸ ha, fun l hl => q _ _ (.newTup hl ra)⟩⟩
theorem allB_vs {H : Hp} : ∀ {ds : List D} {vs : List V} {b : Bool}, allB ds = some b → Reps W H ds vs → ∃ bs : List Bool, vs = bs.map V.bl ∧ bs.all id = b
  | [], _, _, e, .nil => by cases e; exact ⟨[], rfl, rfl⟩
  | d :: ds, _, b, e, .cons h r => by
    cases d <;> simp only [allB, reduceCtorEq] at e
    rename_i k
    obtain ⟨b', e1, rfl⟩ := Option.map_eq_some_iff.mp e
    obtain ⟨bs, rfl, h2⟩ := allB_vs e1 r
    cases h
    exact ⟨k :: bs, rfl, by simp [h2]⟩
theorem anyB_vs {H : Hp} : ∀ {ds : List D} {vs : List V} {b : Bool}, anyB ds = some b → Reps W H ds vs → ∃ bs : List Bool, vs = bs.map V.bl ∧ bs.any id = b
  | [], _, _, e, .nil => by cases e; exact ⟨[], rfl, rfl⟩
  | d :: ds, _, b, e, .cons h r => by
    cases d <;> simp only [anyB, reduceCtorEq] at e
    rename_i k
    obtain ⟨b', e1, rfl⟩ := Option.map_eq_some_iff.mp e
    obtain ⟨bs, rfl, h2⟩ := anyB_vs e1 r
    cases h
    exact ⟨k :: bs, rfl, by simp [h2]⟩
theorem sumI_vs {H : Hp} : ∀ {ds : List D} {vs : List V} {n : Int}, sumI ds = some n → Reps W H ds vs → ∃ ns : List Int, vs = ns.map V.int ∧ ns.sum = n
  | [], _, _, e, .nil => by cases e; exact ⟨[], rfl, rfl⟩
  | d :: ds, _, b, e, .cons h r => by
    cases d <;> simp only [sumI, reduceCtorEq] at e
    rename_i k
    obtain ⟨b', e1, rfl⟩ := Option.map_eq_some_iff.mp e
    obtain ⟨bs, rfl, h2⟩ := sumI_vs e1 r
    cases h
    exact ⟨k :: bs, rfl, by simp [h2]⟩
theorem c_all (hK : X.K = W.K) (hc : X.calm = true) {R : D → Option Str} : CallD W X (.builtin "all") (biD R .all) := by
  intro pins s σ H vs us Q I r ⟨ds, t, w, e, q⟩
  obtain ⟨x, rfl⟩ := biD1 (.inr (.inr (.inr (.inr (.inr (.inr (.inl rfl))))))) e
  obtain ⟨v, rfl, h⟩ := wreps1 w
  cases x <;> simp only [biD, reduceCtorEq] at e
  obtain ⟨b, e1, rfl⟩ := Option.map_eq_some_iff.mp e
  obtain ⟨a, ws, rfl, ha, ra⟩ := h.lstI
  obtain ⟨bs, rfl, h2⟩ := allB_vs e1 ra
  exact cr_all hc pins s σ H _ us Q I r ⟨a, bs, rfl, hK ▸ ha, by rw [h2]; exact bl_res q⟩
theorem c_any (hK : X.K = W.K) (hc : X.calm = true) {R : D → Option Str} : CallD W X (.builtin "any") (biD R .any) := by
  intro pins s σ H vs us Q I r ⟨ds, t, w, e, q⟩
  obtain ⟨x, rfl⟩ := biD1 (.inr (.inr (.inr (.inr (.inr (.inr (.inr (.inl rfl)))))))) e
  obtain ⟨v, rfl, h⟩ := wreps1 w
  cases x <;> simp only [biD, reduceCtorEq] at e
  obtain ⟨b, e1, rfl⟩ := Option.map_eq_some_iff.mp e
  obtain ⟨a, ws, rfl, ha, ra⟩ := h.lstI
  obtain ⟨bs, rfl, h2⟩ := anyB_vs e1 ra
  exact cr_any hc pins s σ H _ us Q I r ⟨a, bs, rfl, hK ▸ ha, by rw [h2]; exact bl_res q⟩
theorem c_sum (hK : X.K = W.K) (hc : X.calm = true) {R : D → Option Str} : CallD W X (.builtin "sum") (biD R .sum) := by
  intro pins s σ H vs us Q I r ⟨ds, t, w, e, q⟩
  obtain ⟨x, rfl⟩ := biD1 (.inr (.inr (.inr (.inr (.inr (.inr (.inr (.inr rfl)))))))) e
  obtain ⟨v, rfl, h⟩ := wreps1 w
  cases x <;> simp only [biD, reduceCtorEq] at e
  obtain ⟨b, e1, rfl⟩ := Option.map_eq_some_iff.mp e
  obtain ⟨a, ws, rfl, ha, ra⟩ := h.lstI
  obtain ⟨bs, rfl, h2⟩ := sumI_vs e1 ra
  exact cr_sum hc pins s σ H _ us Q I r ⟨a, bs, rfl, hK ▸ ha, by rw [h2]; exact frD q (.int _)⟩
theorem c_max2 (hc : X.calm = true) {R : D → Option Str} : CallD W X (.builtin "max") (biD R .max2) := by
  intro pins s σ H vs us Q I r ⟨ds, t, w, e, q⟩
  rcases ds with _ | ⟨x, _ | ⟨y, _ | ⟨z, l⟩⟩⟩ <;> try (simp [biD] at e; done)
  obtain ⟨v, v2, rfl, h, h2⟩ := wreps2 w
  cases x <;> cases y <;> simp only [biD, Option.some.injEq, reduceCtorEq] at e
  subst e; cases h.intI; cases h2.intI
  exact call_max2 hc pins s σ H _ us Q I r ⟨_, _, rfl, frD q (.int _)⟩
theorem c_min2 (hc : X.calm = true) {R : D → Option Str} : CallD W X (.builtin "min") (biD R .min2) := by
  intro pins s σ H vs us Q I r ⟨ds, t, w, e, q⟩
  rcases ds with _ | ⟨x, _ | ⟨y, _ | ⟨z, l⟩⟩⟩ <;> try (simp [biD] at e; done)
  obtain ⟨v, v2, rfl, h, h2⟩ := wreps2 w
  cases x <;> cases y <;> simp only [biD, Option.some.injEq, reduceCtorEq] at e
  subst e; cases h.intI; cases h2.intI
  exact call_min2 hc pins s σ H _ us Q I r ⟨_, _, rfl, frD q (.int _)⟩

/-- the call itself: one argument looked at, or several frozen ones -/
theorem sb_bi1 {f : Value} {op : List D → Option T} {E a : Expr} {ea : Env → Out T} (hc : CallD W X f op)
    (hE : ∀ {r : List V → Hp → VK → Prop} {t : TA}, CallR X f r → PA X [a] t → PE X E (tCB r t)) (hs : ∀ b p, a ≠ .Starred b p) (ha : PE X a (tBo W Wx ea)) :
    PE X E (tE W Wx fun ρ => (ea ρ).bind fun x ρ => Out.of ρ (x.shal.bind fun x => op [x])) := by
  refine (hE hc (pa_cons ha pa_nil (plain_star hs))).mono fun σ H Q ⟨C, ρ, rel, q⟩ => ⟨C, ρ, rel, ?_⟩
  refine wB_bind wE_x wE_b wE_m q fun y ρ2 w H2 e2 r2 ⟨fp, p2⟩ q2 => ?_
  cases es : y.shal with
  | none => rw [es] at q2; exact q2.elim
  | some y' =>
    simp only [es, Option.bind_some] at q2
    cases eo : op [y'] with
    | none => rw [eo] at q2; exact q2.elim
    | some t =>
      rw [eo] at q2
      exact ⟨[y'], t, .cons (shal_wrep es p2) .nil, eo, fun u H3 rs => let ⟨k1, k2⟩ := rs.rel r2; q2 u H3 k1 k2⟩
theorem sb_bis {f : Value} {op : List D → Option T} {E : Expr} (hc : CallD W X f op)
    (hE : ∀ {r : List V → Hp → VK → Prop} {t : TA}, CallR X f r → PA X es t → PE X E (tCB r t)) (ha : PA X es (tDs W Wx er)) :
    PE X E (tE W Wx fun ρ => (er ρ).bind fun ds ρ => Out.of ρ (op ds)) := by
  refine (hE hc ha).mono fun σ H Q ⟨C, ρ, rel, q⟩ => ⟨C, ρ, rel, ?_⟩
  refine wDs_bind wE_x wE_b wE_m q fun ds ρ2 vs H2 e2 r2 p2 q2 => ?_
  cases eo : op ds with
  | none => rw [eo] at q2; exact q2.elim
  | some t =>
    rw [eo] at q2
    exact ⟨ds, t, p2.wreps, eo, fun u H3 rs => let ⟨k1, k2⟩ := rs.rel r2; q2 u H3 k1 k2⟩
end
end Eg
set_option Elab.async false
set_option linter.all false
set_option maxRecDepth 100000
set_option maxHeartbeats 4000000
/-! the engine: items, slices, dict displays, isinstance, list(range(..)) -/
namespace Eg
open PySem PySem.Spec PyProof.Rows L2

section
variable {W : Wd} {Wx : WX} {X : Cx} {pos p2 : Pos}
theorem reps_at {H : Hp} {ds : List D} {vs : List V} {i : Int} {d : D} (r : Reps W H ds vs) (e : L2.atI ds i = some d) : ∃ v, L2.atI vs i = some v ∧ Rep W H d v := by
  unfold L2.atI at e ⊢
  rw [← r.length]
  cases h : L2.ixN ds.length i with
  | none => rw [h] at e; cases e
  | some j =>
    rw [h] at e
    exact r.get e
theorem zip_lookup {H : Hp} {k : Key} {d : D} : ∀ {ks : List Key} {ds : List D} {vs : List V}, Reps W H ds vs → keyAt ks ds k = some d → ∃ v, valV (ks.zip vs) k = some v ∧ Rep W H d v
  | [], _, _, _, e => by simp [keyAt] at e
  | _ :: _, _, _, .nil, e => by simp [keyAt] at e
  | j :: ks, _, _, .cons (d := d0) (v := v0) h r, e => by
    unfold keyAt at e
    by_cases z : j = k
    · rw [if_pos z] at e; cases e
      exact ⟨v0, by simp only [List.zip_cons_cons]; exact valV_pos z, h⟩
    · rw [if_neg z] at e
      obtain ⟨v, h1, h2⟩ := zip_lookup r e
      exact ⟨v, by simp only [List.zip_cons_cons]; rw [valV_neg z]; exact h1, h2⟩
theorem keyOf_V {H : Hp} {y : D} {u : V} {k : Key} (e : keyOfD y = some k) (h : WRep W H y u) : u = kV k := by
  cases y <;> simp only [keyOfD, Option.some.injEq, reduceCtorEq] at e <;> subst e
  · exact h.intI
  · exact h.strI
theorem WRep.dicI {H : Hp} {v : V} {ks : List Key} {ds : List D} (h : WRep W H (.dic ks ds) v) : ∃ a vs, v = .ref a ∧ Rd H a (.dK (ks.zip vs)) ∧ Reps W H ds vs ∧ ks.length = vs.length := by
  cases h with
  | rep r => cases r with
    | dic h r l => exact ⟨_, _, rfl, .inr h, r, l⟩
  | dic h r l => exact ⟨_, _, rfl, .inl h, r, l⟩
/-- d[k], as a subscript's end -/
theorem ix_dict (hu : X.A.units + 1 < cLine) : IxR X (fun x y H Q => ∃ a v, x = .ref a ∧ DGet H a y (some v) ∧ Q v H) := by
  intro value slice pins s σ H x y v u Q I rx ry ⟨a, z, ex, g, q⟩ hs
  subst ex
  cases (show v = Value.ref a from rx)
  have hT := dict_typeIs I g
  unfold subscriptTail
  refine wpAny_bind ?_
  rw [getitemInPython_of_ne hT.not_modules]
  refine wpAny_bind (wpAny_specialOf hT PySem.F.slot_dict_getitem.lookup ?_)
  have go : wpAny (model X.prog X.w) X.A (subscripted slice false (.ref a) u) (fun r s' => wpAny (model X.prog X.w) X.A (letTemporaryGo value (.ref a) r >>= fun _ => pure r) (EP X pins σ Q) X.xe s') X.xe s := by
    rw [hs]
    exact wpAny_operating (d_getItem hu I g ry fun w' s' I' r' => wpAny_bind (wpAny_letTemporaryGo (wpAny_pure ⟨z, H, I', r', q⟩)))
  first
    | exact wpAny_pure (wpAny_bind go)
    | exact wpAny_bind (wpAny_pure (wpAny_bind go))
    | exact wpAny_bind go
theorem ix_D (hK : X.K = W.K) (hu : X.A.units + 300 < cLine) : IxR X (fun v u H Q => ∃ x y z, WRep W H x v ∧ WRep W H y u ∧ ixD x y = some z ∧ ∀ w, Rep W H z w → Q w H) := by
  intro value slice pins s σ H v u v1 u1 Q I rv ru ⟨x, y, z, h1, h2, e, q⟩ hs
  cases x <;> simp only [ixD] at e <;> try (cases e; done)
  · rename_i t
    cases y <;> simp only at e <;> try (cases e; done)
    cases h1.strI; cases h2.intI
    split at e
    · rename_i hf
      obtain ⟨c, e1, rfl⟩ := Option.map_eq_some_iff.mp e
      exact ix_str value slice pins s σ H _ _ v1 u1 Q I rv ru ⟨t, _, c, rfl, rfl, fits_le hf, e1, q _ (.str _)⟩ hs
    · cases e
  · cases y <;> simp only at e <;> try (cases e; done)
    obtain ⟨a, vs, rfl, ha, ra⟩ := h1.tupI
    cases h2.intI
    obtain ⟨w, e1, r1⟩ := reps_at ra e
    exact ix_tup value slice pins s σ H _ _ v1 u1 Q I rv ru ⟨a, vs, _, w, rfl, rfl, hK ▸ ha, e1, q _ r1⟩ hs
  · cases y <;> simp only at e <;> try (cases e; done)
    obtain ⟨a, vs, rfl, ha, ra⟩ := h1.lstI
    cases h2.intI
    obtain ⟨w, e1, r1⟩ := reps_at ra e
    exact ix_list value slice pins s σ H _ _ v1 u1 Q I rv ru ⟨a, vs, _, w, rfl, rfl, hK ▸ ha, e1, q _ r1⟩ hs
  · obtain ⟨a, vs, rfl, ha, ra, l⟩ := h1.dicI
    obtain ⟨k, e1, e2⟩ := Option.bind_eq_some_iff.mp e
    obtain ⟨w, e3, r3⟩ := zip_lookup ra e2
    cases keyOf_V e1 h2
    exact ix_dict (by omega) value slice pins s σ H _ _ v1 u1 Q I rv ru ⟨a, w, rfl, .inl ⟨_, k, ha, rfl, e3.symm⟩, q _ r3⟩ hs

variable {a b : Expr} {ea eb : Env → Out D}
theorem Rel.bound {C : Fx} {ρ : Env} {σ : L2.St} {H : Hp} {k : Nat} (r : Rel W C ρ σ H) (e : boundS ρ k = true) : ∃ v, σ[k]? = some (some v) := by
  unfold boundS at e
  split at e
  · rename_i d h; obtain ⟨v, h1, _⟩ := r.val h; exact ⟨v, h1⟩
  · rename_i t h; obtain ⟨v, fp, h1, _⟩ := r.ownAt h; exact ⟨v, h1⟩
  · cases e
/-- a name's thing, looked at -/
theorem Rel.look {C : Fx} {ρ : Env} {σ : L2.St} {H : Hp} {k : Nat} {t : T} (r : Rel W C ρ σ H) (e : ρ[k]? = some (.val t.toD) ∧ (∃ d, t = .fr d) ∨ ρ[k]? = some (.own t)) : ∃ v fp, σ[k]? = some (some v) ∧ Own W H t v fp := by
  rcases e with ⟨e, d, rfl⟩ | e
  · obtain ⟨v, h1, h2⟩ := r.val e; exact ⟨v, [], h1, .fr h2⟩
  · exact r.ownAt e
/-- xs[i] of a name -/
theorem sb_ixV {x : Str} {k : Nat} (g : GX W Wx X) (hN : X.N[k]? = some x) (hv : Vis X.env.scope x) (hd : (x == ("__debug__" : Str)) = false) (hcd : (x == ("__classdict__" : Str)) = false) (hb : PE X b (tD W Wx eb)) (hs : PlainIx b) :
    PE X (.Subscript (.Name x p2) b pos) (tE W Wx fun ρ => if boundS ρ k then (eb ρ).bind fun y ρ => Out.of ρ (ixS ρ[k]? y) else .bad) := by
  refine (pe_ix (ix_D g.hK g.hu) (pe_var hN hv hd hcd) hb hs).mono fun σ H Q ⟨C, ρ, rel, q⟩ => ?_
  cases hbd : boundS ρ k with
  | false => simp only [hbd] at q; exact q.elim
  | true =>
    simp only [hbd, if_true] at q
    obtain ⟨v, ev⟩ := rel.bound hbd
    refine ⟨v, ev, C, ρ, rel, ?_⟩
    refine wD_bind wE_x wE_b wE_m q fun y ρ1 u H1 e1 r1 p1 q1 => ?_
    cases es : ixS ρ1[k]? y with
    | none => rw [es] at q1; exact q1.elim
    | some t =>
      rw [es] at q1
      unfold ixS at es
      split at es
      · rename_i d h
        obtain ⟨z, e2, rfl⟩ := Option.map_eq_some_iff.mp es
        obtain ⟨v', h1, h2⟩ := r1.val h
        rw [ev] at h1; cases h1
        exact ⟨d, y, z, .rep h2, .rep p1, e2, fun w rw' => q1 w H1 (Ext.refl _) (r1.relT rw')⟩
      · rename_i t' h
        obtain ⟨z, e2, rfl⟩ := Option.map_eq_some_iff.mp es
        obtain ⟨x', e3, e4⟩ := Option.bind_eq_some_iff.mp e2
        obtain ⟨v', fp, h1, h2⟩ := r1.ownAt h
        rw [ev] at h1; cases h1
        exact ⟨x', y, z, shal_wrep e3 h2, .rep p1, e4, fun w rw' => q1 w H1 (Ext.refl _) (r1.relT rw')⟩
      · cases es
theorem sb_ixE (g : GX W Wx X) (ha : PE X a (tD W Wx ea)) (hb : PE X b (tD W Wx eb)) (hs : PlainIx b) :
    PE X (.Subscript a b pos) (tE W Wx fun ρ => (ea ρ).bind fun x ρ => (eb ρ).bind fun y ρ => Out.of ρ ((ixD x y).map .fr)) := by
  refine (pe_ix (ix_D g.hK g.hu) ha hb hs).mono fun σ H Q ⟨C, ρ, rel, q⟩ => ⟨C, ρ, rel, ?_⟩
  refine wD_bind wE_x wE_b wE_m q fun x ρ1 v H1 e1 r1 p1 q1 => ⟨C, ρ1, r1, ?_⟩
  refine wD_bind wE_x wE_b wE_m q1 fun y ρ2 u H2 e2 r2 p2 q2 => ?_
  cases es : ixD x y with
  | none => rw [es] at q2; exact q2.elim
  | some z => rw [es] at q2; exact ⟨x, y, z, .rep (p1.ext e2), .rep p2, es, fun w rw' => q2 w H2 (Ext.refl _) (r2.relT rw')⟩

/-! ### slices -/
def wO (W : Wd) (C : Fx) (Wx : WX) (o : Out (Option Int)) (σ : L2.St) (H : Hp) (Q : Option Int → Hp → Prop) : Prop := match o with
  | .ok i ρ => ∀ H', Ext H H' → Rel W C ρ σ H' → Q i H'
  | .exc d ρ => xWay W C Wx d ρ σ H
  | .bad => False
def tOe (W : Wd) (Wx : WX) (ev : Env → Out (Option Int)) : TO := fun σ H Q => ∃ C ρ, Rel W C ρ σ H ∧ wO W C Wx (ev ρ) σ H Q
theorem _root_.L2.PO.mono {e : Option Expr} {t t' : TO} (h : PO X e t) (k : ∀ σ H Q, t' σ H Q → t σ H Q) : PO X e t' := ⟨fun pins s σ H Q I q => h.run pins s σ H Q I (k σ H Q q)⟩
theorem wO.mono {C : Fx} {σ : L2.St} {H H1 : Hp} {o : Out (Option Int)} {Q : Option Int → Hp → Prop} (e : Ext H H1) (h : wO W C Wx o σ H Q) : wO W C Wx o σ H1 Q := by
  cases o with
  | ok t ρ => exact fun H' e' => h H' (e.trans e')
  | exc d ρ => exact xWay.mono e h
  | bad => exact h
theorem sb_noPart : PO X none (tOe W Wx fun ρ => .ok none ρ) := po_none.mono fun σ H Q ⟨C, ρ, rel, q⟩ => q H (Ext.refl _) rel
theorem sb_part (h : PE X a (tD W Wx ea)) : PO X (some a) (tOe W Wx fun ρ => bindI (ea ρ) fun i ρ => .ok (some i) ρ) := by
  refine (po_some h).mono fun σ H Q ⟨C, ρ, rel, q⟩ => ⟨C, ρ, rel, ?_⟩
  refine wD_bind (P := fun o H => wO W C Wx o σ H Q) (fun _ _ _ h => h) (fun _ h => h) (fun _ _ _ e h => wO.mono e h) q fun x ρ1 v H1 e1 r1 p1 q1 => ?_
  cases x with
  | int i => cases p1; exact ⟨i, rfl, q1 H1 (Ext.refl _) r1⟩
  | _ => exact q1.elim
/-- a slice on data -/
theorem sl_D (hK : X.K = W.K) : L2.SlR X (fun v lo hi H Q => ∃ x t, WRep W H x v ∧ slD x lo hi = some t ∧ ∀ u H', ResT W H t u H' → Q u H') := by
  intro pins s σ H v v1 vl vu lo hi sl Q I rv hsl pl pu ⟨x, t, h, e, q⟩
  cases x <;> simp only [slD, Option.some.injEq, reduceCtorEq] at e
  · subst e
    obtain ⟨a, vs, rfl, ha, ra⟩ := h.tupI
    rw [ra.length] at q
    have rc := (ra.drop (HT.sIx vs.length 0 lo)).take (HT.sIx vs.length vs.length hi - HT.sIx vs.length 0 lo)
    refine sl_tupA pins s σ H _ v1 vl vu lo hi sl Q I rv hsl pl pu ⟨a, vs, rfl, hK ▸ ha, fun z => ?_, fun _ p hp => ?_⟩
    · refine q _ H (.inl ⟨rfl, _, rfl, .tup ha ?_⟩)
      rw [z.1, z.2, ← ra.length]
      simpa [List.take_of_length_le] using ra
    · exact q _ _ (.newTup hp rc)
  · subst e
    obtain ⟨a, vs, rfl, ha, ra⟩ := h.lstI
    refine sl_list pins s σ H _ v1 vl vu lo hi sl Q I rv hsl pl pu ⟨a, vs, rfl, hK ▸ ha, fun p hp => q _ _ ?_⟩
    rw [ra.length]
    exact ResT.newLst hp ((ra.drop (HT.sIx vs.length 0 lo)).take (HT.sIx vs.length vs.length hi - HT.sIx vs.length 0 lo))
variable {lo hi : Option Expr} {el eh : Env → Out (Option Int)}
theorem wO_bind {α : Type} {C : Fx} {σ : L2.St} {P : Out α → Hp → Prop} (hx : ∀ d ρ H, P (.exc d ρ) H → xWay W C Wx d ρ σ H) (hb : ∀ H, ¬ P .bad H) (hm : ∀ o H H1, Ext H H1 → P o H → P o H1)
    {H : Hp} {o : Out (Option Int)} {k : Option Int → Env → Out α} {Q : Option Int → Hp → Prop} (h : P (o.bind k) H) (hk : ∀ i ρ H1, Ext H H1 → Rel W C ρ σ H1 → P (k i ρ) H1 → Q i H1) : wO W C Wx o σ H Q := by
  cases o with
  | ok d ρ => exact fun H1 e r => hk d ρ H1 e r (hm _ _ _ e h)
  | exc d ρ => exact hx _ _ _ h
  | bad => exact hb _ h
theorem sb_slE (g : GX W Wx X) (ha : PE X a (tD W Wx ea)) (hl : PO X lo (tOe W Wx el)) (hh : PO X hi (tOe W Wx eh)) :
    PE X (.Subscript a (.Slice lo hi none p2) pos) (tE W Wx fun ρ => (ea ρ).bind fun x ρ => (el ρ).bind fun l ρ => (eh ρ).bind fun h ρ => Out.of ρ (slD x l h)) := by
  refine (pe_slice (sl_D g.hK) ha hl hh).mono fun σ H Q ⟨C, ρ, rel, q⟩ => ⟨C, ρ, rel, ?_⟩
  refine wD_bind wE_x wE_b wE_m q fun x ρ1 v H1 e1 r1 p1 q1 => ⟨C, ρ1, r1, ?_⟩
  refine wO_bind wE_x wE_b wE_m q1 fun l ρ2 H2 e2 r2 q2 => ⟨C, ρ2, r2, ?_⟩
  refine wO_bind wE_x wE_b wE_m q2 fun h ρ3 H3 e3 r3 q3 => ?_
  cases es : slD x l h with
  | none => rw [es] at q3; exact q3.elim
  | some t => rw [es] at q3; exact ⟨x, t, .rep (p1.ext (e2.trans e3)), es, fun u H4 rs => let ⟨k1, k2⟩ := rs.rel r3; q3 u H4 k1 k2⟩
theorem sb_slV {x : Str} {k : Nat} {p3 : Pos} (g : GX W Wx X) (hN : X.N[k]? = some x) (hv : Vis X.env.scope x) (hd : (x == ("__debug__" : Str)) = false) (hcd : (x == ("__classdict__" : Str)) = false) (hl : PO X lo (tOe W Wx el)) (hh : PO X hi (tOe W Wx eh)) :
    PE X (.Subscript (.Name x p3) (.Slice lo hi none p2) pos) (tE W Wx fun ρ => if boundS ρ k then (el ρ).bind fun l ρ => (eh ρ).bind fun h ρ => Out.of ρ (slS ρ[k]? l h) else .bad) := by
  refine (pe_slice (sl_D g.hK) (pe_var hN hv hd hcd) hl hh).mono fun σ H Q ⟨C, ρ, rel, q⟩ => ?_
  cases hbd : boundS ρ k with
  | false => simp only [hbd] at q; exact q.elim
  | true =>
    simp only [hbd, if_true] at q
    obtain ⟨v, ev⟩ := rel.bound hbd
    refine ⟨v, ev, C, ρ, rel, ?_⟩
    refine wO_bind wE_x wE_b wE_m q fun l ρ2 H2 e2 r2 q2 => ⟨C, ρ2, r2, ?_⟩
    refine wO_bind wE_x wE_b wE_m q2 fun h ρ3 H3 e3 r3 q3 => ?_
    cases es : slS ρ3[k]? l h with
    | none => rw [es] at q3; exact q3.elim
    | some t =>
      rw [es] at q3
      unfold slS at es
      split at es
      · rename_i d hs
        obtain ⟨v', h1, h2⟩ := r3.val hs
        rw [ev] at h1; cases h1
        exact ⟨d, t, .rep h2, es, fun u H4 rs => let ⟨k1, k2⟩ := rs.rel r3; q3 u H4 k1 k2⟩
      · rename_i t' hs
        obtain ⟨x', e3, e4⟩ := Option.bind_eq_some_iff.mp es
        obtain ⟨v', fp, h1, h2⟩ := r3.ownAt hs
        rw [ev] at h1; cases h1
        exact ⟨x', t, shal_wrep e3 h2, e4, fun u H4 rs => let ⟨k1, k2⟩ := rs.rel r3; q3 u H4 k1 k2⟩
      · cases es

/-! ### list(range(..)) -/
theorem rgV_reps {H : Hp} (a b : Int) : Reps W H (rangeD a b) (rgV a b) := by
  unfold rangeD rgV
  generalize (b - a).toNat = n
  induction (List.range n) with
  | nil => exact .nil
  | cons k r ih => exact .cons (.int _) ih
def tRgD (W : Wd) (Wx : WX) (ev : Env → Out (Int × Int)) : L2.St → Hp → (Int → Int → Hp → Prop) → Prop := fun σ H Q => ∃ C ρ, Rel W C ρ σ H ∧ match ev ρ with
  | .ok p ρ => ∀ H', Ext H H' → Rel W C ρ σ H' → Q p.1 p.2 H'
  | .exc d ρ => xWay W C Wx d ρ σ H
  | .bad => False
theorem okRange_of {i : Int} (h : okRange i = true) : -(2 ^ 62) ≤ i ∧ i < 2 ^ 62 := by
  unfold okRange at h
  rw [Bool.and_eq_true] at h
  exact ⟨of_decide_eq_true h.1, of_decide_eq_true h.2⟩

/-! ### dict displays -/
def keyEx (k : Key) (e : Option Expr) : Bool := match k, e with
  | .inl i, some (.Constant (.int j) _ _) => i == j
  | .inr x, some (.Constant (.str y) _ _) => decide (x = y)
  | _, _ => false
theorem keyEx_pe {k : Key} {e : Option Expr} (h : keyEx k e = true) : ∃ e', e = some e' ∧ PE X e' (tC (kV k)) := by
  unfold keyEx at h
  split at h
  · have := eq_of_beq h; subst this; exact ⟨_, rfl, pe_int⟩
  · have := of_decide_eq_true h; subst this; exact ⟨_, rfl, pe_str⟩
  · cases h
end
end Eg
set_option Elab.async false
set_option linter.all false
set_option maxRecDepth 100000
set_option maxHeartbeats 4000000
/-! the engine: dict displays, list(range(..)), isinstance -/
namespace Eg
open PySem PySem.Spec PyProof.Rows L2

section
variable {W : Wd} {Wx : WX} {X : Cx} {pos p2 : Pos}
def kvV (ks : List Key) (vs : List V) : List (V × V) := (ks.zip vs).map fun kv => (kV kv.1, kv.2)
def tKv (W : Wd) (Wx : WX) (ks : List Key) (er : Env → Out (List D)) : L2.St → Hp → (List (V × V) → Hp → Prop) → Prop := fun σ H Q => ∃ C ρ, Rel W C ρ σ H ∧ wDs W C Wx (er ρ) σ H fun vs H' => Q (kvV ks vs) H'
def PD (X : Cx) (pos : Pos) (keys : List (Option Expr)) (values : List Expr) (t : L2.St → Hp → (List (V × V) → Hp → Prop) → Prop) : Prop :=
  ∃ trs, PPs X pos keys values trs ∧ ∀ σ H Q, t σ H Q → tPairs trs σ H Q
theorem tPairs_mono : ∀ {trs : List (TE × TE)} {σ : L2.St} {H : Hp} {Q : List (V × V) → Hp → Prop}, tPairs trs σ H Q → tPairs trs σ H Q := id
theorem pd_nil : PD X pos [] [] (tKv W Wx [] fun ρ => .ok [] ρ) := ⟨[], pps_nil, fun σ H Q ⟨C, ρ, rel, q⟩ => q [] H (Ext.refl _) rel .nil⟩
theorem pd_cons {k : Key} {ks : List Key} {e : Option Expr} {keys : List (Option Expr)} {v : Expr} {values : List Expr} {ea : Env → Out D} {er : Env → Out (List D)} (hk : keyEx k e = true) (hv : PE X v (tD W Wx ea)) (hr : PD X pos keys values (tKv W Wx ks er)) :
    PD X pos (e :: keys) (v :: values) (tKv W Wx (k :: ks) fun ρ => (ea ρ).bind fun x ρ => (er ρ).bind fun ds ρ => .ok (x :: ds) ρ) := by
  obtain ⟨e', rfl, he⟩ := keyEx_pe (X := X) hk
  obtain ⟨trs, h1, h2⟩ := hr
  refine ⟨_, pps_cons he hv h1, fun σ H Q ⟨C, ρ, rel, q⟩ => ?_⟩
  refine ⟨C, ρ, rel, ?_⟩
  refine wD_bind (P := fun o H => wDs W C Wx o σ H fun vs H' => Q (kvV (k :: ks) vs) H') (fun _ _ _ h => h) (fun _ h => h) (fun _ _ _ e h => wDs.mono e h) q fun x ρ1 u H1 e1 r1 p1 q1 => ?_
  refine h2 _ _ _ ⟨C, ρ1, r1, ?_⟩
  refine wDs_bind (P := fun o H => wDs W C Wx o σ H fun vs H' => Q (kvV (k :: ks) vs) H') (fun _ _ _ h => h) (fun _ h => h) (fun _ _ _ e h => wDs.mono e h) q1 fun ds ρ2 vs H2 e2 r2 p2 q2 => ?_
  exact q2 (u :: vs) H2 (Ext.refl _) r2 (.cons (p1.ext e2) p2)
theorem putK_snoc {k : Key} {v : V} : ∀ {ks : List Key} {vs : List V}, k ∉ ks → valV (ks.zip vs) k = none
  | [], _, _ => by simp [valV]
  | _ :: _, [], _ => by simp [valV]
  | j :: ks, w :: vs, h => by
    simp only [List.zip_cons_cons]
    rw [valV_neg (fun z => h (by rw [← z]; simp))]
    exact putK_snoc (v := v) fun z => h (by simp [z])
theorem merge_zip : ∀ {ks js : List Key} {vs us : List V}, js.length = us.length → (js ++ ks).Nodup → mergeK (js.zip us) (ks.zip vs) = js.zip us ++ ks.zip vs
  | [], _, _, _, _, _ => by simp [mergeK]
  | _ :: _, _, [], _, _, _ => by simp [mergeK]
  | k :: ks, js, v :: vs, us, hl, nd => by
    simp only [List.zip_cons_cons]
    show mergeK (putK (js.zip us) k v) (ks.zip vs) = _
    have hk : k ∉ js := by
      intro z
      have := (List.nodup_append.mp nd).2.2 k z k (by simp)
      exact this rfl
    rw [putK_new v (putK_snoc (v := v) hk)]
    have e : js.zip us ++ [(k, v)] = (js ++ [k]).zip (us ++ [v]) := by rw [List.zip_append hl]; rfl
    rw [e, merge_zip (js := js ++ [k]) (us := us ++ [v]) (by simp [hl]) (by simpa using nd), List.zip_append hl]
    simp
variable {keys : List (Option Expr)} {values : List Expr} {er : Env → Out (List D)} {ks : List Key}
/-- a step's exception under another ground -/
theorem xWay.rebase {C : Fx} {H : Hp} {fp ex : List Addr} {ρ ρ2 : Env} {σ : L2.St} {d : D} (h : RelP W C ρ σ H fp ex) (lv : ∀ a ∈ ex, Live H a) {H0 : Hp} (e0 : Ext H0 H) (q : xWay W C Wx d ρ2 σ H0) : xWay W ⟨H, fp, C.fix⟩ Wx d ρ2 σ H := fun cls dx H' e' rx rl =>
  q cls dx H' (e0.trans e') rx (let ⟨_, fp2, r⟩ := h.back lv rl; r.plain)
theorem sb_dic (h : PD X pos keys values (tKv W Wx ks er)) (hall : keys.all (·.isSome) = true) (hl : keys.length = values.length) (h0 : keys ≠ []) (h15 : keys.length ≤ 15) :
    PE X (.Dict keys values pos) (tE W Wx fun ρ => (er ρ).bind fun ds ρ => if ks.length = ds.length && decide ks.Nodup && decide (ks.length ≤ 15) then .ok (.dic ks (ds.map .fr)) ρ else .bad) := by
  obtain ⟨trs, h1, h2⟩ := h
  refine (pe_disp h1 hall hl h0 h15).mono fun σ H Q ⟨C, ρ, rel, q⟩ p hp => ?_
  obtain ⟨fp, ro⟩ := rel.opened (o := .dK []) hp (fun _ z => nomatch z)
  have lv : ∀ a ∈ [p], Live (upd H p (.dK [])) a := fun a m => by
    have : a = p := by simpa using m
    subst this; exact .inr (.inl ⟨_, upd_same⟩)
  refine h2 _ _ _ ⟨_, ρ, ro.base, ?_⟩
  have e0 : Ext H (upd H p (.dK [])) := Ext.new hp
  cases eo : er ρ with
  | bad => simp only [eo, Out.bind] at q; exact q.elim
  | exc d ρ1 => simp only [eo, Out.bind] at q; exact xWay.rebase ro lv e0 q
  | ok ds ρ1 =>
    simp only [eo, Out.bind] at q
    intro vs H2 e2 r2 p2
    obtain ⟨ke, fp2, r3⟩ := ro.back lv r2
    have kp : H2 p = some (.dK []) := (ke p (by simp)).trans upd_same
    refine ⟨kp, ks.zip vs, rfl, ?_, ?_⟩
    · split at q
      · rename_i hc
        simp only [Bool.and_eq_true, decide_eq_true_eq] at hc
        rw [List.length_zip]; omega
      · exact q.elim
    · split at q
      · rename_i hc
        simp only [Bool.and_eq_true, decide_eq_true_eq] at hc
        obtain ⟨⟨c1, c2⟩, c3⟩ := hc
        have em : mergeK [] (ks.zip vs) = ks.zip vs := by
          have := merge_zip (js := []) (us := []) (ks := ks) (vs := vs) rfl (by simpa using c2)
          simpa using this
        rw [em]
        have lp : Live H2 p := .inr (.inl ⟨_, kp⟩)
        have r4 := r3.write (o := .dK (ks.zip vs)) (by simp) lp (fun _ z => nomatch z)
        have e4 : Ext H2 (upd H2 p (.dK (ks.zip vs))) := Ext.upd lp
        have ow : Own W (upd H2 p (.dK (ks.zip vs))) (.dic ks (ds.map .fr)) (.ref p) [p] := .dic upd_same (p2.ext e4).owns (by rw [c1, p2.length])
        exact q _ _ (e0.trans (e2.trans e4)) (r4.close ow)
      · exact q.elim
theorem sb_dic0 : PE X (.Dict [] [] pos) (tE W Wx fun ρ => .ok (.dic [] []) ρ) := by
  refine pe_dnewK.mono fun σ H Q ⟨C, ρ, rel, q⟩ p hp => ?_
  exact q _ _ (Ext.new hp) (rel.newOwn hp (fun _ z => nomatch z) (.dic (ks := []) (vs := []) upd_same .nil rfl))

/-! ### list(range(..)) -/
theorem rg_ok {a b : Int} (h1 : okRange a = true) (h2 : okRange b = true) (h3 : fits (rangeD a b).length = true) : RgOk a b := by
  have z := fits_le h3
  rw [sizeLine_eq] at z
  have l : (rangeD a b).length = (b - a).toNat := by simp [rangeD]
  rw [l] at z
  exact ⟨(okRange_of h1).1, (okRange_of h1).2, (okRange_of h2).1, (okRange_of h2).2, by omega⟩
variable {a b : Expr} {ea eb : Env → Out D} {p pos2 : Pos}
def isStar : Expr → Bool
  | .Starred _ _ => true
  | _ => false
theorem isStar_ne {e : Expr} (h : isStar e = false) : ∀ b p, e ≠ .Starred b p := fun b p z => by rw [z] at h; cases h
theorem nostar_any {env : PySem.Env} : ∀ {es : List Expr}, (es.all fun e => !isStar e) = true → (backTo pos (starEach es env)).any (·.1) = false
  | [], _ => rfl
  | e :: es, h => by
    simp only [List.all_cons, Bool.and_eq_true, Bool.not_eq_true'] at h
    rw [plain_star (isStar_ne h.1)]
    show (false || (backTo pos (starEach es env)).any (·.1)) = false
    rw [nostar_any h.2]; rfl
theorem nostar1 (h : ∀ b p, a ≠ .Starred b p) : starEach [a] X.env = (false, eval a X.env) :: starEach [] X.env := plain_star h
theorem sb_lrng1 (g : GX W Wx X) (hg : Gl X "list") (hm : X.mg "list" = none) (hg2 : Gl X "range") (hm2 : X.mg "range" = none) (hs : ∀ b p, a ≠ .Starred b p) (ha : PE X a (tD W Wx ea)) :
    PE X (.Call (.Name "list" p) [.Call (.Name "range" p2) [a] [] pos2] [] pos) (tE W Wx fun ρ => (bindI (ea ρ) fun n ρ => if okRange n then .ok (rangeD 0 n) ρ else .bad).bind fun xs ρ => if fits xs.length then .ok (.lst (xs.map .fr)) ρ else .bad) := by
  refine (pe_listRg g.calm hg hm (prg_1 hg2 hm2 ha (plain_star hs))).mono fun σ H Q ⟨C, ρ, rel, q⟩ => ⟨C, ρ, rel, ?_⟩
  unfold bindI at q
  cases eo : ea ρ with
  | bad => simp only [eo, Out.bind] at q; exact q.elim
  | exc d ρ1 => simp only [eo, Out.bind] at q; exact q
  | ok x ρ1 =>
    simp only [eo, Out.bind] at q
    intro v H1 e1 r1 p1
    cases x <;> simp only at q <;> try exact q.elim
    rename_i n
    cases p1
    cases hr : okRange n with
    | false => rw [hr] at q; exact q.elim
    | true =>
      rw [hr] at q
      simp only [if_true] at q
      cases hf : fits (rangeD 0 n).length with
      | false => rw [hf] at q; exact q.elim
      | true =>
        rw [hf] at q
        exact ⟨n, rfl, rg_ok (by decide) hr hf, fun p hp => let ⟨k1, k2⟩ := (ResT.newLst hp (rgV_reps 0 n)).rel r1; q _ _ (e1.trans k1) k2⟩
theorem sb_lrng2 (g : GX W Wx X) (hg : Gl X "list") (hm : X.mg "list" = none) (hg2 : Gl X "range") (hm2 : X.mg "range" = none) (hs : ∀ b p, a ≠ .Starred b p) (hs2 : isStar b = false) (ha : PE X a (tD W Wx ea)) (hb : PE X b (tD W Wx eb)) :
    PE X (.Call (.Name "list" p) [.Call (.Name "range" p2) [a, b] [] pos2] [] pos) (tE W Wx fun ρ => (bindI (ea ρ) fun m ρ => bindI (eb ρ) fun n ρ => if okRange m && okRange n then .ok (rangeD m n) ρ else .bad).bind fun xs ρ => if fits xs.length then .ok (.lst (xs.map .fr)) ρ else .bad) := by
  refine (pe_listRg g.calm hg hm (prg_2 hg2 hm2 ha hb (plain_star hs) (plain_star (isStar_ne hs2)) (nostar_any (by simp [hs2])))).mono fun σ H Q ⟨C, ρ, rel, q⟩ => ⟨C, ρ, rel, ?_⟩
  unfold bindI at q
  cases eo : ea ρ with
  | bad => simp only [eo, Out.bind] at q; exact q.elim
  | exc d ρ1 => simp only [eo, Out.bind] at q; exact q
  | ok x ρ1 =>
    simp only [eo, Out.bind] at q
    intro v H1 e1 r1 p1
    refine ⟨C, ρ1, r1, ?_⟩
    cases x <;> simp only at q <;> try exact q.elim
    rename_i m
    cases p1
    cases eo2 : eb ρ1 with
    | bad => simp only [eo2, Out.bind] at q; exact q.elim
    | exc d ρ2 => simp only [eo2, Out.bind] at q; exact xWay.mono e1 q
    | ok y ρ2 =>
      simp only [eo2, Out.bind] at q
      intro v2 H2 e2 r2 p2
      cases y <;> simp only at q <;> try exact q.elim
      rename_i n
      cases p2
      cases hr : (okRange m && okRange n) with
      | false => rw [hr] at q; exact q.elim
      | true =>
        rw [hr] at q
        simp only [if_true] at q
        cases hf : fits (rangeD m n).length with
        | false => rw [hf] at q; exact q.elim
        | true =>
          rw [hf] at q
          rw [Bool.and_eq_true] at hr
          exact ⟨m, n, rfl, rfl, rg_ok hr.1 hr.2 hf, fun p hp => let ⟨k1, k2⟩ := (ResT.newLst hp (rgV_reps m n)).rel r2; q _ _ (e1.trans (e2.trans k1)) k2⟩

/-! ### isinstance -/
structure ClsI (K : PySem.W.Frag) (C : Addr) : Prop where
  cl : Cls K C
  ha : PySem.W.findIn K (.ref C) "__class__" = some (some (.builtin "object.__class__"))
  hn : PySem.W.specialIn K (.builtin "object.__class__") "__get__" = some (some (.builtin "getset_descriptor.__get__"))
  htk : PySem.W.takesIn K (.builtin "object.__class__") = some true
  hm : PySem.W.mroIn K C (.type "object") = some true
structure ClsE (K : PySem.W.Frag) (C : Addr) : Prop where
  cl : (PySem.W.clsIn K C).isSome = true
  hga : PySem.W.findIn K (.ref C) "__getattribute__" = some (some (.builtin "BaseException.__getattribute__"))
  hgt : PySem.W.findIn K (.ref C) "__getattr__" = some none
  hsub : PySem.W.subIn K (.ref C) (.type "BaseException") = some true
  ha : PySem.W.findIn K (.ref C) "__class__" = some (some (.builtin "object.__class__"))
  hn : PySem.W.specialIn K (.builtin "object.__class__") "__get__" = some (some (.builtin "getset_descriptor.__get__"))
  htk : PySem.W.takesIn K (.builtin "object.__class__") = some true
  hm : PySem.W.mroIn K C (.type "object") = some true
/-- the classes are as the static part tells -/
structure WOk (W : Wd) (S : Stat) : Prop where
  clsI : ∀ c, c < S.nC → S.isX c = false → ClsI W.K (W.cA c)
  clsE : ∀ c, c < S.nC → S.isX c = true → ClsE W.K (W.cA c)
  isi : ∀ c, c < S.nC → ∀ j, j < S.nC → PySem.W.kitOne W.K (.ref (W.cA c)) (.ref (W.cA j)) = some (S.sub c j)
  isB : ∀ c, c < S.nC → ∀ s ∈ tgNs, PySem.W.kitOne W.K (.ref (W.cA c)) (.type s) = some (S.subB c s)
  isT : ∀ t ∈ tyNs, ∀ j, j < S.nC → PySem.W.kitOne W.K (.type t) (.ref (W.cA j)) = some false
theorem kit_tt : ∀ t ∈ tyNs, ∀ s ∈ tgNs, kitB t s = some (isTy t s) := by decide +kernel
def Ty1 (d : D) : Bool := match d with
  | .ins _ _ => false
  | .exc _ _ => false
  | _ => true
theorem ty1_mem {d : D} (h : Ty1 d = true) : d.ty ∈ tyNs := by cases d <;> simp [Ty1] at h <;> simp [D.ty, tyNs]
theorem kit_1 {pins : List (Addr × Obj)} {σ : L2.St} {H : Hp} {s : Shared} {d : D} {v : V} {u : Value} (hK : X.K = W.K) (I : Inv X pins σ H s) (rv : RelV v u) (h : WRep W H d v) (t1 : Ty1 d = true) :
    ∃ P : Heap → Prop, PySem.W.KitX X.K u (.type d.ty) P ∧ P s.heap ∧ u ≠ .builtin "__main__.__loader__#opaque" := by
  cases h with
  | rep r =>
    cases r with
    | non => exact kit_of I rv (.base .non)
    | bl b => exact kit_of I rv (.base (.bl b))
    | int i => exact kit_of I rv (.base (.int i))
    | str i => exact kit_of I rv (.base (.str i))
    | tup q _ =>
      rcases q with (q | ⟨o, q⟩) | ⟨o, _, _, q, c, _⟩
      · exact kit_of I rv (.base (.tup q))
      · exact kit_of I rv (.fTuple q)
      · exact kit_of I rv (.kTuple (hK ▸ q) c)
    | lst q _ =>
      rcases q with ⟨o, q⟩ | ⟨o, _, _, q, c, _⟩
      · exact kit_of I rv (.base (.frz q))
      · exact kit_of I rv (.kList (hK ▸ q) c)
    | dic q _ _ => obtain ⟨o, q⟩ := q; exact kit_of I rv (.fDict q)
    | ins _ _ _ => cases t1
    | exc _ _ => cases t1
  | lst q _ => exact kit_of I rv (.base (.lst q))
  | dic q _ _ => exact kit_of I rv (.base (.dK q))
  | ins _ _ _ => cases t1
/-- an instance's own record -/
theorem insM {P : Program} {w : World} {H : Hp} {h : Heap} {a C dx : Addr} {fs : List (Str × V)} (x : ObjOk P w H h a (.ins C dx fs)) : ∃ mA, ObjM h a dx C mA := by
  obtain ⟨d, z, ne, ob, mA, n, r, q⟩ := x
  exact ⟨mA, ob, n, ne⟩
theorem kit_i {pins : List (Addr × Obj)} {σ : L2.St} {H : Hp} {s : Shared} {a C dx : Addr} {fs : List (Str × V)} (ok : ClsI X.K C) (I : Inv X pins σ H s) (r : ObjOk X.prog X.w H s.heap a (.ins C dx fs)) :
    ∃ P : Heap → Prop, PySem.W.KitX X.K (.ref a) (.ref C) P ∧ P s.heap ∧ (Value.ref a) ≠ .builtin "__main__.__loader__#opaque" := by
  obtain ⟨mA, O⟩ := insM r
  obtain ⟨od, J, _⟩ := O.look
  exact ⟨_, PySem.W.kitx_own (ok.cl.get _) ok.cl.hd ok.ha ok.hn ok.htk ok.hm, J, fun z => nomatch z⟩
theorem kit_e {pins : List (Addr × Obj)} {σ : L2.St} {H : Hp} {s : Shared} {a C : Addr} {fs : List (Str × V)} (ok : ClsE X.K C) (I : Inv X pins σ H s) (r : ExF H a C fs) :
    ∃ P : Heap → Prop, PySem.W.KitX X.K (.ref a) (.ref C) P ∧ P s.heap ∧ (Value.ref a) ≠ .builtin "__main__.__loader__#opaque" := by
  obtain ⟨oe, dx, ⟨o, h1⟩, h2, h3, ⟨vs, h4⟩, ⟨o2, h5⟩⟩ := r
  obtain ⟨_, q1, _⟩ := I.hok a _ h1
  obtain ⟨q2, mA, hn, _⟩ := I.hok dx _ h5
  obtain ⟨od, hd, _⟩ := lookIn_ns hn
  have no : PySem.W.notCls oe = true := by unfold PySem.W.notCls; rw [h4]
  exact ⟨_, PySem.W.kitx_exc (od := some od) (ox := oe) ok.cl ok.hga ok.hgt ok.hsub ok.ha ok.hn ok.htk ok.hm, ⟨q1, h2, no, by rw [h3]; exact hd⟩, fun z => nomatch z⟩
def clsVal (W : Wd) : Nat ⊕ String → Value
  | .inl j => .ref (W.cA j)
  | .inr s => .type s
theorem isi_D {S : Stat} {pins : List (Addr × Obj)} {σ : L2.St} {H : Hp} {s : Shared} {d : D} {c : Nat ⊕ String} {b : Bool} {v : V} {u : Value} (ok : WOk W S) (hK : X.K = W.K) (I : Inv X pins σ H s) (rv : RelV v u) (h : WRep W H d v) (e : isiD S d c = some b) :
    ∃ (t : Value) (P : Heap → Prop), PySem.W.KitX X.K u t P ∧ P s.heap ∧ u ≠ .builtin "__main__.__loader__#opaque" ∧ PySem.W.kitOne X.K t (clsVal W c) = some b := by
  have one : Ty1 d = true → isiD S d c = isBlt S d.ty c → ∃ (t : Value) (P : Heap → Prop), PySem.W.KitX X.K u t P ∧ P s.heap ∧ u ≠ .builtin "__main__.__loader__#opaque" ∧ PySem.W.kitOne X.K t (clsVal W c) = some b := fun t1 e1 => by
    obtain ⟨P, k1, k2, k3⟩ := kit_1 hK I rv h t1
    refine ⟨_, P, k1, k2, k3, ?_⟩
    rw [e1] at e
    cases c with
    | inl j =>
      simp only [isBlt] at e
      split at e
      · rename_i hj
        cases e
        rw [hK]; exact ok.isT _ (ty1_mem t1) j hj
      · cases e
    | inr n =>
      simp only [isBlt] at e
      split at e
      · rename_i hj
        cases e
        exact kit_ty (kit_tt _ (ty1_mem t1) n (by simpa using hj))
      · cases e
  have two : ∀ k, k < S.nC → isOwn S k c = some b → PySem.W.kitOne X.K (.ref (W.cA k)) (clsVal W c) = some b := fun k hk e2 => by
    rw [hK]
    cases c with
    | inl j =>
      simp only [isOwn] at e2
      split at e2
      · rename_i hj; cases e2; exact ok.isi k hk j hj
      · cases e2
    | inr n =>
      simp only [isOwn] at e2
      split at e2
      · rename_i hj; cases e2; exact ok.isB k hk n (by simpa using hj)
      · cases e2
  have ins : ∀ k ds, d = .ins k ds → ∀ a, v = .ref a → (∃ dx fs, ObjOk X.prog X.w H s.heap a (.ins (W.cA k) dx fs)) → ∃ (t : Value) (P : Heap → Prop), PySem.W.KitX X.K u t P ∧ P s.heap ∧ u ≠ .builtin "__main__.__loader__#opaque" ∧ PySem.W.kitOne X.K t (clsVal W c) = some b := by
    rintro k ds rfl a rfl ⟨dx, fs, r⟩
    cases (show u = Value.ref a from rv)
    simp only [isiD] at e
    split at e
    · rename_i hc
      simp only [Bool.and_eq_true, decide_eq_true_eq, Bool.not_eq_true'] at hc
      obtain ⟨P, k1, k2, k3⟩ := kit_i (hK ▸ ok.clsI k hc.1 hc.2) I r
      exact ⟨_, P, k1, k2, k3, two k hc.1 e⟩
    · cases e
  cases h with
  | rep r =>
    cases r with
    | ins q _ _ =>
      obtain ⟨o, q⟩ := q
      exact ins _ _ rfl _ rfl ⟨_, _, (I.hok _ _ q).2⟩
    | exc q _ =>
      cases (show u = Value.ref _ from rv)
      simp only [isiD] at e
      split at e
      · rename_i hc
        simp only [Bool.and_eq_true, decide_eq_true_eq] at hc
        obtain ⟨P, k1, k2, k3⟩ := kit_e (hK ▸ ok.clsE _ hc.1 hc.2) I q
        exact ⟨_, P, k1, k2, k3, two _ hc.1 e⟩
      · cases e
    | non => exact one rfl rfl
    | bl b => exact one rfl rfl
    | int i => exact one rfl rfl
    | str i => exact one rfl rfl
    | tup q _ => exact one rfl rfl
    | lst q _ => exact one rfl rfl
    | dic q _ _ => exact one rfl rfl
  | lst q _ => exact one rfl rfl
  | dic q _ _ => exact one rfl rfl
  | ins q _ _ => exact ins _ _ rfl _ rfl ⟨_, _, I.hok _ _ q⟩
/-- a class's name, read -/
structure PCls (X : Cx) (e : Expr) (c : V) (u : Value) : Prop where
  pe : PE X e (tC c)
  cv : ClsV c u
theorem sb_isi {S : Stat} {ec : Expr} {c : Nat ⊕ String} {cv : V} {E : Expr} {ea : Env → Out T} (ok : WOk W S) (g : GX W Wx X) (hc : PCls X ec cv (clsVal W c)) (hs : isStar a = false) (hs2 : isStar ec = false) (ha : PE X a (tBo W Wx ea))
    (hE : ∀ {r : List V → Hp → VK → Prop} {t : TA}, CallR X (.builtin "isinstance") r → PA X [a, ec] t → PE X E (tCB r t)) :
    PE X E (tE W Wx fun ρ => (ea ρ).bind fun x ρ => Out.of ρ ((x.shal.bind fun x => isiD S x c).map fun b => .fr (.bl b))) := by
  have cr : CallR X (.builtin "isinstance") (fun vs H Q => ∃ x d b, vs = [x, cv] ∧ WRep W H d x ∧ isiD S d c = some b ∧ Q (.bl b) H) := by
    intro pins s σ H xs us Q I r ⟨x, d, b, ex, w, e, q⟩
    subst ex
    obtain ⟨u1, u2, rfl, r1, r2⟩ := vals2 r
    have e2 := hc.cv.eq r2
    subst e2
    obtain ⟨t, P, k1, k2, k3, k4⟩ := isi_D ok g.hK I r1 w e
    exact PySem.W.kia_one k1 I.kIn k2 k4 k3 fun tk => ⟨.bl b, H, I.tok tk, rfl, q⟩
  refine (hE cr (pa_cons ha (pa_cons hc.pe pa_nil (plain_star (isStar_ne hs2))) (plain_star (isStar_ne hs)))).mono fun σ H Q ⟨C, ρ, rel, q⟩ => ⟨C, ρ, rel, ?_⟩
  refine wB_bind wE_x wE_b wE_m q fun y ρ2 w H2 e2 r2 ⟨fp, p2⟩ q2 => ?_
  cases es : y.shal with
  | none => rw [es] at q2; exact q2.elim
  | some y' =>
    simp only [es, Option.bind_some] at q2
    cases eo : isiD S y' c with
    | none => rw [eo] at q2; exact q2.elim
    | some b =>
      rw [eo] at q2
      exact ⟨w, y', b, rfl, shal_wrep es p2, eo, q2 _ H2 (Ext.refl _) (r2.relT (.bl b))⟩
end
end Eg
set_option Elab.async false
set_option linter.all false
set_option maxRecDepth 100000
set_option maxHeartbeats 4000000
/-! the engine: an exception is made -/
namespace Eg
open PySem PySem.Spec PyProof.Rows L2

def xE (l : Nat) : Expr := .Call (.Attribute (.Call (.Name "super" ⟨l, 8, l, 13⟩) [] [] ⟨l, 8, l, 15⟩) "__init__" ⟨l, 8, l, 24⟩) [.Name "value" ⟨l, 25, l, 30⟩] [] ⟨l, 8, l, 31⟩
def xBody (l : Nat) : List Stmt :=
  [.Expr (xE l) ⟨l, 8, l, 31⟩, .Assign [.Attribute (.Name "self" ⟨l + 1, 8, l + 1, 12⟩) "value" ⟨l + 1, 8, l + 1, 18⟩] (.Name "value" ⟨l + 1, 21, l + 1, 26⟩) ⟨l + 1, 8, l + 1, 26⟩]
theorem xE_eval {l : Nat} (hl : l = 5 ∨ l = 8) (env : PySem.Env) : ∃ pl : Sem Bool, eval (xE l) env = (do
      let ov ← attributeBase (.Call (.Name "super" ⟨l, 8, l, 13⟩) [] [] ⟨l, 8, l, 15⟩) "__init__" env (eval (.Call (.Name "super" ⟨l, 8, l, 13⟩) [] [] ⟨l, 8, l, 15⟩) env)
      standAt (Pos.atName ⟨l, 8, l, 24⟩)
      let (f, first) ← holding [ov] (getMethod ov "__init__" pl)
      callWith ⟨l, 8, l, 31⟩ f first (backTo ⟨l, 8, l, 31⟩ (starEach [.Name "value" ⟨l, 25, l, 30⟩] env)) []) := by
  rcases hl with rfl | rfl <;> exact ⟨_, rfl⟩
def xScope : Scope := { kind := .function, names := [("self", .local), ("value", .local), ("__class__", .free), ("super", .globalImplicit)], isGenerator := false, isCoroutine := false, more := [] }
/-- the base class's own __init__, and a class above it -/
structure XF (P : Program) (K : PySem.W.Frag) (C : Addr) : Prop where
  oex : OexC K C
  fn : ∃ (D fI cc cda : Addr) (oc : Value) (od : Option Addr) (osl : Array (Option Value)) (name qual : Str) (params : Arguments) (l : Nat) (dV kV doc pm : Value) (an : Option Addr) (ct : Value)
      (vs : Array Value) (file : Str) (tf : Tok) (ccl cl : Value) (cdd cld : Option Addr) (ccs csl : Array (Option Value)) (cdD cdC : ClassData),
    (l = 5 ∨ l = 8) ∧ K.lookup fI = some ⟨oc, od, .func (PySem.W.ksFn name qual params (xBody l) xScope dV kV doc pm an (.ref cda) ct cc), osl⟩ ∧ PySem.W.codeIn K (.ref cda) qual = true ∧
    PySem.W.findIn K (.ref C) "__init__" = some (some (.ref fI)) ∧ PySem.W.typeIn K (.ref fI) = some (.type "function") ∧
    (∃ ar, (params.posonlyargs ++ params.args).head? = some ar ∧ ar.arg = ("self" : Str)) ∧
    (∀ e u : Value, bindArgs (PySem.W.ksFn name qual params (xBody l) xScope dV kV doc pm an (.ref cda) ct cc) ⟨[e, u], []⟩ = pure [(("self" : Str), e), (("value" : Str), u)]) ∧
    K.lookup cda = some ⟨ccl, cdd, .fields vs, ccs⟩ ∧ vs[2]? = some (.str file tf) ∧ ((P.main.file : Str) == file) = true ∧
    K.lookup cc = some ⟨cl, cld, .cell (some (.ref D)), csl⟩ ∧ PySem.W.clsIn K D = some cdD ∧ PySem.W.mroIn K C (.ref D) = some true ∧
    PySem.W.clsIn K C = some cdC ∧ PySem.W.alongIn K "__init__" ((cdC.mro.dropWhile (· != .ref D)).drop 1) = some (some (.builtin "ValueError.__init__"))
  ve : PySem.W.subIn K (.ref C) (.type "ValueError") = some true
  third : PySem.W.nsIn K cStatics "thirdparty.any" = some none
  nov : PySem.W.findIn K (.ref C) "value" = some none
  top : (P.main.scope.names.lookup ("super" : Str)).isSome = false

section
open PySem.W PySem.Calls
variable {prog : Program} {w : World} {A : Around} {E : Value → Shared → Prop} {K : PySem.W.Frag} {C : Addr}
/-- super().__init__(..), the wrapper called -/
theorem xw_call {hp : Heap} {g : Array GenState} {d : Drawn} {tk : Nat} {os : OsState} {x u t : Addr} {nm q : Str} {N : Addr} {bs bm : List Value} {sn : List Str} {sub : List Value} {ab : Bool} {col : Option Bool} {dd : Option Addr} {k0 k1 k2 k3 k5 : Option Value} {rest : List Value} {Q : Value → Shared → Prop}
    (hC : hp.get? C = some (excClassObj nm q C N bs bm true sn sub ab col dd k0 k1 k2 k3 k5 "ValueError.__new__")) (hu : hp.get? u = some (kxs_mw "ValueError.__init__" x)) (he : hp.get? x = some (excObj C t none .none)) (hz : rest.length ≤ sizeLine)
    (h : ∀ h' t', (∀ b o, b ≠ x → hp.get? b = some o → h'.get? b = some o) → h'.get? x = some (excObj C t' none .none) → Q .none ⟨h', g, d, tk, os⟩) :
    wpAny (model prog w) A (call (.ref u) rest) Q E ⟨hp, g, d, tk, os⟩ := by
  refine wpAny_call (codeAny_of_tree ?_)
  show wpAny _ A.in1 (callAny (.ref u) ⟨rest, []⟩) _ _ _
  simp only [callAny]
  refine wpAny_bind (wpAny_load hu ?_)
  have wr : (Value.type "method-wrapper" == Value.type "method" || Value.type "method-wrapper" == Value.type "builtin_function_or_method" || Value.type "method-wrapper" == Value.type "method-wrapper") = true := by decide
  simp only [kxs_mw, wr, if_true]
  refine KFB.if_so (by decide) ?_
  refine wpAny_bind (check_bound_init F.excBase_ValueError.toExcCallFacts hC he rfl ?_)
  refine wpAny_bind (wpAny_pure (wpAny_pure ?_))
  refine ⟨plainId_quiet F.excBase_ValueError.init.plain _, codeAny_builtin F.excBase_ValueError.initEntry ?_⟩
  exact exc_init_tree (cls := .ref C) (t0 := t) (dv := none) (c2 := .none) (c3 := .none) (b4 := .bool false) he hz fun h' k e1 e2 => h h' _ k e1
/-- C(u): the object, its dict -/
theorem x_call {R : Result → Shared → Prop} {hp : Heap} {g : Array GenState} {d : Drawn} {tk : Nat} {os : OsState} {u : Value} {mg mb : Str → Option Value} (T : XF prog K C) (KX : K.In hp) (lim : hp.NoLimit) (glob : hp.Ns mainGlobals mg) (nosup : mg "super" = none)
    (blt : hp.Ns builtinsNs mb) (hsup : mb "super" = some (.type "super")) (hroom : A.depth + 1 < recursionLimit)
    (h : ∀ (h' : Heap) (tk' : Nat) (e dx t1 : Addr), (∀ b o, hp.get? b = some o → h'.get? b = some o) → hp.objs.size ≤ e → hp.objs.size ≤ dx → dx ≠ e →
      h'.get? e = some ({ cls := .ref C, dict := some dx, data := .fields #[.ref t1, .none, .none, .none, .bool false, .none] } : Obj) → h'.Ns1 dx (fun y => if y = ("value" : Str) then some u else none) → R (.ok (.ret (.ref e))) ⟨h', g, d, tk', os⟩) :
    codeAny (model prog w) A (.call (.ref C) ⟨[u], []⟩) R ⟨hp, g, d, tk, os⟩ := by
  obtain ⟨nm, q, N, bs, bm, sn, sub, ab, col, dd, k0, k1, k2, k3, k5, hC, hbm⟩ := T.oex.cls
  obtain ⟨D, fI, cc, cda, oc, od, osl, name, qual, params, l, dV, kV, doc, pm, an, ct, vs, file, tf, ccl, cl, cdd, cld, ccs, csl, cdD, cdC, hl, hfn, hcd, iC, tI, ⟨ar, har, harn⟩, hbind, hcode, hvs, hfile, hcell, hD, hsub, hcC, hal⟩ := T.fn
  have hCg := KX _ _ hC
  refine PySem.HandSPX.call_own F.excBase_ValueError (fun Y => PySem.HandSPX.refsVE_contains Y bm hbm) hCg (looks_findIn KX iC) (fun self => bind_fn KX self tI) (by rw [sizeLine_eq]; simp) ?_
  have kk : ∀ b o, hp.get? b = some o → ((hp.push (kdv_tup [u])).push (PySem.HandSPX.excO C hp.objs.size)).get? b = some o := fun b o e => Heap.get?_push_of_some _ (Heap.get?_push_of_some _ e)
  have hget : ((hp.push (kdv_tup [u])).push (PySem.HandSPX.excO C hp.objs.size)).get? (hp.objs.size + 1) = some (PySem.HandSPX.excO C hp.objs.size) := by heap_get
  generalize hgen : (hp.push (kdv_tup [u])).push (PySem.HandSPX.excO C hp.objs.size) = h1 at kk hget
  generalize he : hp.objs.size + 1 = e at hget
  have hle : hp.objs.size ≤ e := by omega
  have KX1 : K.In h1 := KX.keeps kk
  have room1 : (A.under (.builtin "type.__call__" ⟨.ref C :: [u], []⟩)).depth < recursionLimit := by rw [make_depth]; exact hroom
  refine ks_codeAny_call_defAt (fd := ksFn name qual params (xBody l) xScope dV kV doc pm an (.ref cda) ct cc) (body := xBody l) (binds := [(("self" : Str), .ref e), (("value" : Str), u)]) room1 (KX1 _ _ hfn) rfl (lim.keeps kk) (codeRec_of KX1 hcd) rfl
    (.of_eq (hbind _ _)) (fun x hx => ?_) (fun x hx => ?_) (fun h2 hns hk2 => ?_) rfl rfl rfl
  · simp only [xScope, List.mem_cons, List.not_mem_nil, or_false] at hx
    rcases hx with rfl | rfl | rfl | rfl <;> decide
  · simp only [List.mem_cons, List.not_mem_nil, or_false] at hx
    rcases hx with rfl | rfl <;> rfl
  have k2 : ∀ b o, hp.get? b = some o → h2.get? b = some o := fun b o z => hk2 b o (kk b o z)
  have KX2 : K.In h2 := KX.keeps k2
  have hx2 := hk2 _ _ hget
  obtain ⟨oD, hD1, hD2⟩ : ∃ oD, h2.get? D = some oD ∧ oD.data = .cls cdD := by
    unfold clsIn at hD
    split at hD
    · rename_i c d cd' sl ho
      cases hD
      exact ⟨_, KX2 _ _ ho, rfl⟩
    · cases hD
  have nsS : (fun x => List.lookup x [(("self" : Str), Value.ref e), (("value" : Str), u)].reverse) ("self" : Str) = some (.ref e) := by
    have : (("self" : Str) == ("value" : Str)) = false := by decide
    simp [List.lookup, this]
  have nsV : (fun x => List.lookup x [(("self" : Str), Value.ref e), (("value" : Str), u)].reverse) ("value" : Str) = some u := by simp [List.lookup]
  obtain ⟨pl, hpl⟩ := xE_eval hl (callEnv (ksFn name qual params (xBody l) xScope dV kV doc pm an (.ref cda) ct cc) h1.objs.size fI)
  refine ks_wpAt_execs_cons (ks_wpAt_Expr_any (ks_wpAt_MethodCall (pl := pl) ?_ hpl) rfl ?_)
  · refine ks_wpAt_super_base rfl rfl (by decide) rfl (KX2 _ _ hfn) rfl har rfl (KX2 _ _ hcode) rfl hvs hfile T.top ?_
    refine ks_loadName_global rfl rfl (loadGlobal_builtin (glob.keeps k2) nosup (blt.keeps k2) hsup ⟨rfl, ?_⟩)
    refine wpAny_loadName_free rfl rfl rfl ⟨_, KX2 _ _ hcell, rfl⟩ ?_
    rw [harn]
    refine wpAny_loadName_local rfl rfl hns nsS ?_
    refine ks_wpAny_isType_cls hD1 hD2 ⟨rfl, ?_⟩
    refine ks_wpAny_call_super hD1 hD2 hx2 rfl (fun c z => nomatch z) (looks_mroIn KX2 hsub) (fun h3 hso k3 => ?_)
    have KX3 : K.In h3 := KX2.keeps k3
    have hx3 := k3 _ _ hx2
    have I3 : InstAt h3 e (PySem.HandSPX.excO C hp.objs.size) C none := ⟨hx3, rfl, rfl, True.intro⟩
    have hI : Looks (model prog w) h3 (isInstance (.ref e) (.type "ValueError")) true := I3.type.andThen (looks_subIn KX3 T.ve)
    refine kxs_getMethod kxs_ValueError hso (looks_opaque KX3 T.third) (l₀ := cdC.mro) (fun A Q E s k q => wpAny_bind ((looks_clsIn KX3 hcC) A _ E s k (wpAny_pure q))) rfl KX3 hal hI (ks_ne KX3 I3 hcC) (by decide) ?_
    have k4 : ∀ b o, h3.get? b = some o → (h3.push (kxs_mw "ValueError.__init__" e)).get? b = some o := fun b o z => Heap.get?_push_of_some _ z
    have hu4 : (h3.push (kxs_mw "ValueError.__init__" e)).get? h3.objs.size = some (kxs_mw "ValueError.__init__" e) := Heap.get?_push_at rfl rfl
    have k24 : ∀ b o, h2.get? b = some o → (h3.push (kxs_mw "ValueError.__init__" e)).get? b = some o := fun b o z => k4 b o (k3 b o z)
    refine kxs_callWith (i := "ValueError.__init__") (x := e) rfl ?_
    refine evalArgs_plain (spliced_cons (wpAny_Name (wpAny_loadName_local rfl rfl (hns.keeps k24) nsV (spliced_nil ?_))))
    refine ⟨hu4, ?_⟩
    refine xw_call (KX3.keeps k4 _ _ hC) hu4 (k4 _ _ hx3) (by rw [sizeLine_eq]; simp) (fun h5 t5 k5 hx5 => ?_)
    have hLe : h1.objs.size ≠ e := Nat.ne_of_gt (Heap.lt_size hget)
    have hns5 : h5.Ns h1.objs.size (fun x => List.lookup x [(("self" : Str), Value.ref e), (("value" : Str), u)].reverse) := by
      obtain ⟨o, es, ep, ho, r⟩ := hns
      exact ⟨o, es, ep, k5 _ _ hLe (k24 _ _ ho), r⟩
    have hpe : ∀ {b : Addr} {o : Obj}, hp.get? b = some o → b ≠ e := fun {b o} z => Nat.ne_of_lt (Nat.lt_of_lt_of_le (Heap.lt_size z) hle)
    have k05 : ∀ b o, hp.get? b = some o → h5.get? b = some o := fun b o z => k5 b o (hpe z) (k24 b o (k2 b o z))
    have KX5 : K.In h5 := KX.keeps k05
    have hcl : clsIn K C = some { name := nm, bases := bs, mro := .ref C :: bm, ns := N, qualname := q, hasDict := true, slotNames := sn, subclasses := sub, abstract := ab, collection := col, hasDel := false } := by unfold clsIn; rw [hC]
    refine ks_wpAt_execs_cons (ks_wpAt_Assign_Attr (wpAt_of_wpAny (wpAny_Name (wpAny_loadName_local rfl rfl hns5 nsV (wpAny_Name (wpAny_loadName_local rfl rfl hns5 nsS ?_))))) ?_)
    · refine set_plain KX5 (ox := { cls := .ref C, dict := none, data := .fields #[.ref t5, .none, .none, .none, .bool false, .none] }) (od := none) ⟨hx5, rfl, rfl, trivial⟩ T.oex.sa ?_
      refine PySem.HandSPX.exc_osa KX5 hx5 hcl (show PySem.HandSPX.refsVE (.ref C :: bm) = true from hbm) rfl T.nov (fun h6 tk6 dx k6 dn dne hx6 hn6 => ?_)
      refine wpAt_of_wpAny (wpAny_execs_nil ?_)
      refine ⟨rfl, h h6 tk6 e dx t5 (fun b o z => k6 b o (hpe z) (k05 b o z)) hle (Nat.le_trans hle (Nat.le_of_lt (Nat.lt_of_lt_of_le (Heap.lt_size hx5) dn))) dne hx6 hn6⟩
    · rcases hl with rfl | rfl <;> rfl
  · rcases hl with rfl | rfl <;> rfl
end

section
variable {W : Wd} {Wx : WX} {X : Cx} {pos p : Pos}
/-- what stands behind C(v): the exception, known; its dict, known -/
theorem x_inv {pins : List (Addr × Obj)} {σ : L2.St} {H : Hp} {s : Shared} {C : Addr} {v : V} {u : Value} {Q : VK} (T : XF X.prog X.K C) (nosup : X.mg "super" = none) (hroom : X.A.depth + 1 < recursionLimit) (I : Inv X pins σ H s) (rv : RelV v u)
    (q : ∀ e dx oe od, H e = none → H dx = none → dx ≠ e → oe.cls = .ref C → oe.dict = some dx → (∃ w, oe.data = .fields w) → Q (.ref e) (upd (upd H dx (.frz od (.xd [("value", v)]))) e (.frz oe (.ext fun h => h.get? e = some oe)))) :
    wpAny (model X.prog X.w) X.A (call (.ref C) [u]) (EP X pins σ Q) X.xe s := by
  obtain ⟨mb, hb1, hb2⟩ := I.ok.mod.blt
  have hsup : mb "super" = some (.type "super") := (hb2 _ (by decide)).trans (by decide +kernel)
  obtain ⟨hp, g, d, tk, os⟩ := s
  refine wpAny_call (x_call T I.kIn I.nolimit (I.mod.glob.keeps I.bk) nosup (hb1.keeps I.bk) hsup hroom fun h' tk' e dx t1 k le ld ne he hd => ?_)
  have ne' : H e = none := I.hok.fresh le
  have nd' : H dx = none := I.hok.fresh ld
  obtain ⟨od, hod⟩ : ∃ o, h'.get? dx = some o := let ⟨o, _, _, z, _⟩ := hd; ⟨o, z⟩
  refine ⟨.ref e, _, ?_, rfl, q e dx { cls := .ref C, dict := some dx, data := .fields #[.ref t1, .none, .none, .none, .bool false, .none] } od ne' nd' ne rfl rfl ⟨_, rfl⟩⟩
  have fe : ∀ {b : Addr} {o : Obj}, hp.get? b = some o → b ≠ e := fun {b o} z => Nat.ne_of_lt (Nat.lt_of_lt_of_le (Heap.lt_size z) le)
  have fd : ∀ {b : Addr} {o : Obj}, hp.get? b = some o → b ≠ dx := fun {b o} z => Nat.ne_of_lt (Nat.lt_of_lt_of_le (Heap.lt_size z) ld)
  have up : ∀ {b : Addr} {o : HO} {oe : HO} {ox : HO}, H b = some o → upd (upd H dx ox) e oe b = some o := fun {b o oe ox} z => by rw [upd_ne (ne_of_none z ne'), upd_ne (ne_of_none z nd')]; exact z
  refine I.un (h' := h') (t' := tk') ⟨fun b o z _ _ _ => k b o z, fun b o z _ _ _ => ⟨o.slots, k b o z⟩, fun b o z n _ => by rw [upd_ne (fe z), upd_ne (fd z)]; exact n, fun b o z _ => ⟨o, k b o z⟩, fun b xs z => up z, fun b o w z => up z, fun b ps z => ⟨#[], by rw [up z]; simp⟩⟩ fun b o z => ?_
  by_cases hbe : b = e
  · subst hbe
    rw [upd_same] at z; cases z
    exact ⟨he, he, ⟨_, he⟩, fun h1 h2 y kk => kk _ y⟩
  · rw [upd_ne hbe] at z
    by_cases hbd : b = dx
    · subst hbd
      rw [upd_same] at z; cases z
      refine ⟨hod, _, hd, fun f => ?_⟩
      by_cases hf : f = ("value" : Str)
      · subst hf
        rw [if_pos rfl]
        have : List.lookup ("value" : Str) [(("value" : Str), v)] = some v := by simp [List.lookup]
        rw [this]; exact rv
      · rw [if_neg hf]
        have hb : (f == ("value" : Str)) = false := beq_eq_false_iff_ne.mpr hf
        have : List.lookup f [(("value" : Str), v)] = none := by simp [List.lookup, hb]
        rw [this]; exact True.intro
    · rw [upd_ne hbd] at z
      exact (I.hok b o z).stay (fun c w _ y => k c w y) (fun c y => up y) fun c xs y => up y
/-- C(a): a new exception -/
theorem sb_mkexc {S : Stat} {x : Str} {c : Nat} {a : Expr} {ea : Env → Out D} (g : GX W Wx X) (T : XF X.prog X.K (W.cA c)) (nosup : X.mg "super" = none) (hroom : X.A.depth + 1 < recursionLimit) (hg : Gl X x) (hm : X.mg x = some (.ref (W.cA c))) (hdb : (x == ("__debug__" : Str)) = false) (hs : isStar a = false)
    (ha : PE X a (tD W Wx ea)) : PE X (.Call (.Name x p) [a] [] pos) (tE W Wx fun ρ => (ea ρ).bind fun y ρ => .ok (.fr (.exc c y)) ρ) := by
  refine ⟨fun pins s σ H Q I ⟨C, ρ, rel, q⟩ => ?_⟩
  refine wpAny_Call_Name_kw (ld_glob I hg hm ?_ hdb)
  have hpa : PA X [a] (tCons (tD W Wx ea) tNil) := pa_cons ha pa_nil (plain_star (isStar_ne hs))
  refine PySem.W.callWith_K (h₀ := X.base) I.ok.mod.kin T.oex.kC (thn (hpa.run pos pins s σ H (fun vs H1 => ∃ v y ρ1, vs = [v] ∧ Ext H H1 ∧ Rel W C ρ1 σ H1 ∧ Rep W H1 y v ∧ wE W C Wx (.ok (.fr (.exc c y)) ρ1) σ H1 Q) I ⟨C, ρ, rel, ?_⟩) fun us s1 ⟨vs, H1, I1, r, v, y, ρ1, ev, e1, r1, p1, q1⟩ => ⟨I1.kIn, ?_⟩) (plain_star (isStar_ne hs)) rfl
  · refine wD_bind wE_x wE_b wE_m q fun y ρ1 v H1 e1 r1 p1 q1 => ⟨v, y, ρ1, rfl, e1, r1, p1, q1⟩
  · subst ev
    obtain ⟨u, rfl, ru⟩ := vals1 r
    refine x_inv T nosup hroom I1 ru fun e dx oe od ne nd dne oc odc ofl => ?_
    have nt : ∀ ps, HO.frz od (.xd [("value", v)]) ≠ .tbl ps := fun _ z => nomatch z
    have hn2 : upd H1 dx (.frz od (.xd [("value", v)])) e = none := by rw [upd_ne (Ne.symm dne)]; exact ne
    have e2 : Ext H1 (upd H1 dx (.frz od (.xd [("value", v)]))) := Ext.new nd
    have e3 : Ext (upd H1 dx (.frz od (.xd [("value", v)]))) (upd (upd H1 dx (.frz od (.xd [("value", v)]))) e (.frz oe (.ext fun h => h.get? e = some oe))) := Ext.new hn2
    have r3 := (r1.new nd nt).new (o := .frz oe (.ext fun h => h.get? e = some oe)) hn2 (fun _ z => nomatch z)
    refine q1 _ _ (e2.trans e3) (r3.relT (.exc (v := v) ⟨oe, dx, ⟨oe, upd_same⟩, oc, odc, ofl, ⟨od, ?_⟩⟩ (p1.ext (e2.trans e3))))
    rw [upd_ne dne, upd_same]
end
end Eg
set_option Elab.async false
set_option linter.all false
set_option maxRecDepth 100000
set_option maxHeartbeats 4000000
/-! the engine: repr; an exception's value -/
namespace Eg
open PySem PySem.Spec PyProof.Rows L2

section
variable {W : Wd} {Wx : WX} {X : Cx} {pos p : Pos}
variable {pins : List (Addr × Obj)} {σ : L2.St} {H : Hp} {s : Shared}
def SysOk (K : PySem.W.Frag) : Prop := ∃ o, K.lookup sysModules = some o ∧ o.cls = .type "dict"
theorem trk_sys (hs : SysOk X.K) (I : Inv X pins σ H s) {a : Addr} {u : HO} (e : H a = some u) : a ≠ sysModules := fun z => by
  obtain ⟨o, h1, _⟩ := hs
  have := (I.bs _ _ (I.ok.mod.kin _ _ h1)).2
  rw [z, this] at e; cases e
theorem k_sys (hs : SysOk X.K) {a : Addr} {o : Obj} (e : X.K.lookup a = some o) (c : o.cls = .type "list") : a ≠ sysModules := fun z => by
  obtain ⟨o', h1, h2⟩ := hs
  rw [z, h1] at e; cases e
  rw [h2] at c
  injection c with c
  exact absurd c (by decide)
theorem mem_app {α : Type} {P : α → Prop} {as bs : List α} (h1 : ∀ a ∈ as, P a) (h2 : ∀ a ∈ bs, P a) : ∀ a ∈ as ++ bs, P a := fun a m => (List.mem_append.mp m).elim (h1 a) (h2 a)
/-- a list that may be read -/
theorem list_reads (hK : X.K = W.K) (hs : SysOk X.K) (I : Inv X pins σ H s) {a : Addr} {xs : List V} (h : SqL X.K H a xs) : ∃ its o n, Vals xs its ∧ s.heap.get? a = some o ∧ o.cls = .type "list" ∧ o.data = .seq its.toArray n ∧ a ≠ sysModules := by
  have z : a ≠ sysModules := by
    rcases h with (h | ⟨o, h⟩) | ⟨o, its, n, h, c, _⟩
    · exact trk_sys hs I h
    · exact trk_sys hs I h
    · exact k_sys hs h c
  obtain ⟨its, rv, ⟨o, n, ho, hc, _, hd⟩, _⟩ := I.list h
  exact ⟨its, o, n, rv, ho, hc, hd, z⟩
theorem kv_reads {P : Program} {w : World} {h : Heap} : ∀ {ks : List Key} {vs : List V} {kvs : List (Key × Value)} {es : List DictEntry}, ks.length = vs.length → KV (ks.zip vs) kvs → Pairs (mixKind P w) es kvs →
    (∃ as, ReadsAll h (es.map (·.key)) (ks.map keyPy) as ∧ ∀ a ∈ as, a ≠ sysModules) ∧ Vals vs (es.map (·.val))
  | [], [], _, _, _, .nil, .nil => ⟨⟨[], .nil, fun _ m => by cases m⟩, .nil⟩
  | k :: ks, v :: vs, _, _, l, .cons r t, .cons h1 h2 h3 => by
    obtain ⟨⟨as, q1, q2⟩, q3⟩ := kv_reads (h := h) (by simpa using l) t h3
    rename_i b _ en _
    have hk : ∃ bs, Reads h en.key (keyPy k) bs ∧ ∀ a ∈ bs, a ≠ sysModules := by
      have e : keyIs k en.key = true := by
        have r1 : k = b.1 := r.1
        rw [r1]; exact h1
      rcases keyIs_shape e with ⟨i, u, rfl, e2⟩ | ⟨x, u, rfl, e2⟩
      · rw [e2]; exact ⟨[], .int i u, fun _ m => by cases m⟩
      · rw [e2]; exact ⟨[], .str x u, fun _ m => by cases m⟩
    obtain ⟨bs, q4, q5⟩ := hk
    refine ⟨⟨_, .cons q4 q1, mem_app q5 q2⟩, .cons ?_ q3⟩
    show RelV v en.val
    rw [h2]; exact r.2
theorem pyKv_keys : ∀ {ks : List Key} {ds : List D}, ks.length = ds.length → (D.pyKv ks ds).map (·.1) = ks.map keyPy ∧ (D.pyKv ks ds).map (·.2) = D.pys ds
  | [], [], _ => by simp [D.pyKv, D.pys]
  | k :: ks, d :: ds, l => by
    obtain ⟨h1, h2⟩ := pyKv_keys (ks := ks) (ds := ds) (by simpa using l)
    simp [D.pyKv, D.pys, h1, h2]
mutual
theorem rep_reads (hK : X.K = W.K) (hs : SysOk X.K) (I : Inv X pins σ H s) : ∀ {d : D} {v : V} {u : Value}, Rep W H d v → RelV v u → d.plainO = true → ∃ as, Reads s.heap u d.py as ∧ ∀ a ∈ as, a ≠ sysModules
  | _, _, _, .non, r, _ => by cases r; exact ⟨[], by rw [D.py]; exact .none, fun _ m => by cases m⟩
  | _, _, _, .bl b, r, _ => by cases r; exact ⟨[], by rw [D.py]; exact .bool b, fun _ m => by cases m⟩
  | _, _, _, .int i, r, _ => by obtain ⟨t, rfl⟩ := r; exact ⟨[], by rw [D.py]; exact .int i t, fun _ m => by cases m⟩
  | _, _, _, .str x, r, _ => by obtain ⟨t, rfl⟩ := r; exact ⟨[], by rw [D.py]; exact .str x t, fun _ m => by cases m⟩
  | _, _, _, .tup h q, r, z => by
    cases r
    obtain ⟨its, rv, ⟨o, ho, hc, n, hd⟩, _⟩ := I.tuple (hK ▸ h)
    obtain ⟨as, hr, ha⟩ := reps_reads hK hs I q rv (by simpa [D.plainO] using z)
    exact ⟨_, by rw [D.py]; exact .tuple ho hc hd hr, ha⟩
  | _, _, _, .lst h q, r, z => by
    cases r
    obtain ⟨its, o, n, rv, ho, hc, hd, hne⟩ := list_reads hK hs I (hK ▸ h.sql)
    obtain ⟨as, hr, ha⟩ := reps_reads hK hs I q rv (by simpa [D.plainO] using z)
    exact ⟨_, by rw [D.py]; exact .list ho hc hd hr, fun b m => (List.mem_cons.mp m).elim (fun e => e ▸ hne) (ha b)⟩
  | _, _, _, .dic h q l, r, z => by
    cases r
    obtain ⟨od, h⟩ := h
    obtain ⟨_, ne, kvs, rk, o, es, ep, ho, hx, hd, hko, hp, _⟩ := (I.hok _ _ h).2
    obtain ⟨⟨as, q1, q2⟩, q3⟩ := kv_reads (h := s.heap) l rk hp
    obtain ⟨bs, q4, q5⟩ := reps_reads hK hs I q q3 (by simpa [D.plainO] using z)
    obtain ⟨k1, k2⟩ := pyKv_keys (l.trans q.length.symm)
    exact ⟨_, by rw [D.py]; exact .dict ho hx.1 hd (by rw [k1]; exact q1) (by rw [k2]; exact q4), fun b m => by
      rw [List.cons_append] at m
      rcases List.mem_cons.mp m with rfl | m
      · exact fun e => by rw [e] at ne; simp at ne
      · exact mem_app q2 q5 b m⟩
  | _, _, _, .ins _ _ _, _, z => by simp [D.plainO] at z
  | _, _, _, .exc _ _, _, z => by simp [D.plainO] at z
theorem reps_reads (hK : X.K = W.K) (hs : SysOk X.K) (I : Inv X pins σ H s) : ∀ {ds : List D} {vs : List V} {us : List Value}, Reps W H ds vs → Vals vs us → D.plainOs ds = true → ∃ as, ReadsAll s.heap us (D.pys ds) as ∧ ∀ a ∈ as, a ≠ sysModules
  | _, _, _, .nil, .nil, _ => ⟨[], by rw [D.pys]; exact .nil, fun _ m => by cases m⟩
  | _, _, _, .cons h q, .cons r1 r2, z => by
    simp only [D.plainOs, Bool.and_eq_true] at z
    obtain ⟨as, h1, h2⟩ := rep_reads hK hs I h r1 z.1
    obtain ⟨bs, h3, h4⟩ := reps_reads hK hs I q r2 z.2
    exact ⟨_, by rw [D.pys]; exact .cons h1 h3, mem_app h2 h4⟩
end
/-- the same of what is looked at -/
theorem wrep_reads (hK : X.K = W.K) (hs : SysOk X.K) (I : Inv X pins σ H s) {d : D} {v : V} {u : Value} (h : WRep W H d v) (r : RelV v u) (z : d.plainO = true) : ∃ as, Reads s.heap u d.py as ∧ ∀ a ∈ as, a ≠ sysModules := by
  cases h with
  | rep h => exact rep_reads hK hs I h r z
  | lst h q =>
    cases r
    obtain ⟨its, o, n, rv, ho, hc, hd, hne⟩ := list_reads hK hs I (.inl (.inl h))
    obtain ⟨as, hr, ha⟩ := reps_reads hK hs I q rv (by simpa [D.plainO] using z)
    exact ⟨_, by rw [D.py]; exact .list ho hc hd hr, fun b m => (List.mem_cons.mp m).elim (fun e => e ▸ hne) (ha b)⟩
  | dic h q l =>
    cases r
    obtain ⟨_, ne, kvs, rk, o, es, ep, ho, hx, hd, hko, hp, _⟩ := I.hok _ _ h
    obtain ⟨⟨as, q1, q2⟩, q3⟩ := kv_reads (h := s.heap) l rk hp
    obtain ⟨bs, q4, q5⟩ := reps_reads hK hs I q q3 (by simpa [D.plainO] using z)
    obtain ⟨k1, k2⟩ := pyKv_keys (l.trans q.length.symm)
    exact ⟨_, by rw [D.py]; exact .dict ho hx.1 hd (by rw [k1]; exact q1) (by rw [k2]; exact q4), fun b m => by
      rw [List.cons_append] at m
      rcases List.mem_cons.mp m with rfl | m
      · exact fun e => by rw [e] at ne; simp at ne
      · exact mem_app q2 q5 b m⟩
  | ins _ _ _ => simp [D.plainO] at z
theorem c_repr (g : GX W Wx X) (hs : SysOk X.K) : CallD W X (.builtin "repr") (biD reprD .repr) := by
  intro pins s σ H vs us Q I r ⟨ds, t, w, e, q⟩
  obtain ⟨x, rfl⟩ := biD1 (.inr (.inr (.inr (.inr (.inr (.inl rfl)))))) e
  obtain ⟨v, rfl, h⟩ := wreps1 w
  obtain ⟨u, rfl, rv⟩ := vals1 r
  simp only [biD] at e
  obtain ⟨z, e1, rfl⟩ := Option.map_eq_some_iff.mp e
  unfold reprD at e1
  split at e1
  · rename_i hc
    cases e1
    simp only [Bool.and_eq_true, decide_eq_true_eq] at hc
    obtain ⟨⟨⟨c1, c2⟩, c3⟩, c4⟩ := hc
    obtain ⟨as, rd, ha⟩ := wrep_reads g.hK hs I h rv c1
    have hsz : x.py.shown.length ≤ sizeLine := by rw [sizeLine_eq]; exact c4
    have hu := g.hu
    have hsm : x.py.hasDict = true → sysModules ∉ as := fun _ m => ha _ m rfl
    have key : ∀ {a : Addr}, u = .ref a → wpAny (model X.prog X.w) X.A (call (.builtin "repr") [u]) (EP X pins σ Q) X.xe s := fun {a} eu => by
      subst eu
      exact repr_of_reads' rd c2 hsm g.hg (by omega) (fun _ _ z => z) (fun h' u' tk k => ⟨.str _, H, I.kept (t' := tk) k, ⟨_, rfl⟩, frD q (.str _)⟩) hsz
    generalize x.py = y at rd c2 hsz q
    cases rd with
    | none => exact PySem.P.repr_of_none ⟨.str _, H, I.tok _, ⟨_, rfl⟩, frD q (.str _)⟩
    | bool b => exact PySem.P.repr_of_bool ⟨.str _, H, I.tok _, ⟨_, rfl⟩, frD q (.str _)⟩
    | int i t => exact PySem.P.repr_of_int (by simpa [PyData.showable] using c2) ⟨.str _, H, I.tok _, ⟨_, rfl⟩, frD q (.str _)⟩
    | str y t => exact PySem.P.repr_of_str ⟨.str _, H, I.tok _, ⟨_, rfl⟩, frD q (.str _)⟩ (by simpa [PyData.shown] using hsz)
    | list h1 h2 h3 h4 => exact key rfl
    | tuple h1 h2 h3 h4 => exact key rfl
    | dict h1 h2 h3 h4 h5 => exact key rfl
  · cases e1
end
end Eg
set_option Elab.async false
set_option linter.all false
set_option maxRecDepth 100000
set_option maxHeartbeats 4000000
/-! the engine: what a def promises; calls -/
namespace Eg
open PySem PySem.Spec PyProof.Rows L2

/-- behind a call: what it was given (In: the footprint of what is own among it), what is there now -/
structure PostC (W : Wd) (vs : List V) (H : Hp) (In : List Addr) (H' : Hp) (fin : Env) (ft : List Addr) : Prop where
  ext : Ext H H'
  keep : ∀ b o, H b = some o → b ∉ In → (∀ ps, o ≠ .tbl ps) → H' b = some o
  dom : ∀ b, H b ≠ none → H' b ≠ none
  tabs : LamX.Tabs W.T H'
  own : ∃ fs, SlRs W H' fin (vs.map some) fs ∧ (fs ++ ft).Nodup ∧ ∀ a ∈ fs ++ ft, a ∈ In ∨ H a = none
def wF (W : Wd) (vs : List V) (H : Hp) (In : List Addr) (o : OutF) (Q : VK) (E : XK) : Prop := match o with
  | .ret t fin => ∀ v H' ft, Own W H' t v ft → PostC W vs H In H' fin ft → Q v H'
  | .exc d fin => ∀ cls dx H', RepX W H' d cls dx → PostC W vs H In H' fin [] → E cls dx H'
  | .bad => False
structure FnE (W : Wd) (P : Program) (w : World) (mg : Str → Option Value) (base : Heap) (k : Nat) (fa : Addr) (fd : FuncData) (ps : List Str) (f : Env → OutF) : Prop where
  len : ∀ args, f args ≠ .bad → args.length = ps.length
  run : ∀ (A : Around) (outer : List PySem.Env) (s : Shared) (H : Hp) (as : Args) (us : List Value) (vs : List V) (args : Env) (In : List Addr) (Q : VK) (E : XK), Room k A → A.guards = some [] → Env0 P w W.K mg base A outer s H → BindsTo s fd as (ps.zip us) → Vals vs us →
    SlRs W H args (vs.map some) In → In.Nodup → LamX.Tabs W.T H → wF W vs H In (f args) Q E → codeAny (model P w) A (.call (.ref fa) as) (CR (CX P w) outer P w H s Q E) s

section
variable {W : Wd} {Wx : WX} {X : Cx} {pos p : Pos}
/-- arguments that were reckoned -/
inductive ArsR (W : Wd) (H : Hp) (σ : L2.St) : List Ar → List V → List Addr → Prop where
  | nil : ArsR W H σ [] [] []
  | tm {t : T} {v : V} {f : List Addr} {as : List Ar} {vs : List V} {fs : List Addr} : Own W H t v f → ArsR W H σ as vs fs → ArsR W H σ (.tm t :: as) (v :: vs) (f ++ fs)
  | io {i : Nat} {v : V} {as : List Ar} {vs : List V} {fs : List Addr} : σ[i]? = some (some v) → ArsR W H σ as vs fs → ArsR W H σ (.io i :: as) (v :: vs) fs
theorem ArsR.live {H : Hp} {σ : L2.St} : ∀ {as : List Ar} {vs : List V} {fs : List Addr}, ArsR W H σ as vs fs → ∀ a ∈ fs, Live H a
  | _, _, _, .nil, a, m => by cases m
  | _, _, _, .tm h r, a, m => (List.mem_append.mp m).elim (h.live a) (r.live a)
  | _, _, _, .io _ r, a, m => r.live a m
theorem ArsR.ext {H H' : Hp} {σ : L2.St} (e : Ext H H') : ∀ {as : List Ar} {vs : List V} {fs : List Addr}, ArsR W H σ as vs fs → (∀ a ∈ fs, H' a = H a) → ArsR W H' σ as vs fs
  | _, _, _, .nil, _ => .nil
  | _, _, _, .tm h r, k => .tm (h.ext e fun a m => k a (by simp [m])) (r.ext e fun a m => k a (by simp [m]))
  | _, _, _, .io h r, k => .io h (r.ext e k)
def RelA (W : Wd) (C : Fx) (ρ : Env) (σ : L2.St) (H : Hp) (as : List Ar) (vs : List V) : Prop := ∃ fp ex, ArsR W H σ as vs ex ∧ RelP W C ρ σ H fp ex
def wAs (W : Wd) (C : Fx) (Wx : WX) (o : Out (List Ar)) (σ : L2.St) (H : Hp) (Q : List V → Hp → Prop) : Prop := match o with
  | .ok as ρ => ∀ vs H', Ext H H' → RelA W C ρ σ H' as vs → Q vs H'
  | .exc d ρ => xWay W C Wx d ρ σ H
  | .bad => False
def tAs (W : Wd) (Wx : WX) (ev : Env → Out (List Ar)) : TA := fun σ H Q => ∃ C ρ, Rel W C ρ σ H ∧ wAs W C Wx (ev ρ) σ H Q
theorem wAs.mono {C : Fx} {σ : L2.St} {H H1 : Hp} {o : Out (List Ar)} {Q : List V → Hp → Prop} (e : Ext H H1) (h : wAs W C Wx o σ H Q) : wAs W C Wx o σ H1 Q := by
  cases o with
  | ok t ρ => exact fun vs H' e' => h vs H' (e.trans e')
  | exc d ρ => exact xWay.mono e h
  | bad => exact h
/-- steps on a ground of their own: back, whatever they hold -/
theorem RelP.back2 {C : Fx} {ρ : Env} {σ : L2.St} {H : Hp} {fp ex : List Addr} (h : RelP W C ρ σ H fp ex) (lv : ∀ a ∈ ex, Live H a) {ρ2 : Env} {σ2 : L2.St} {H2 : Hp} {fp2 ex2 : List Addr} (r : RelP W ⟨H, fp, C.fix⟩ ρ2 σ2 H2 fp2 ex2) :
    (∀ a ∈ ex, H2 a = H a) ∧ RelP W C ρ2 σ2 H2 fp2 (ex ++ ex2) := by
  obtain ⟨n1, n2, n3⟩ := List.nodup_append.mp h.nd
  obtain ⟨m1, m2, m3⟩ := List.nodup_append.mp r.nd
  have ke : ∀ a ∈ ex, H2 a = H a := fun a m => by
    have hn : a ∉ fp := fun z => n3 a z a m rfl
    rcases lv a m with ⟨_, e⟩ | ⟨_, e⟩ | ⟨_, _, _, e⟩ <;> rw [e] <;> exact r.frame a _ e hn (fun _ z => nomatch z)
  have out : ∀ a ∈ fp2 ++ ex2, a ∉ ex := fun a m m2 => by
    rcases r.own a m with y | y
    · exact n3 a y a m2 rfl
    · obtain ⟨u, e, _⟩ := (lv a m2).some
      have y : H a = none := y
      rw [e] at y; cases y
  refine ⟨ke, r.slots, ?_, fun a m => ?_, fun b u q n nt => ?_, fun b q => r.dom b (h.dom b q), r.fix, r.tabs⟩
  · refine List.nodup_append.mpr ⟨m1, List.nodup_append.mpr ⟨n2, m2, fun a m b m' z => out b (by simp [m']) (z ▸ m)⟩, fun a m b m' z => ?_⟩
    rcases List.mem_append.mp m' with m' | m'
    · exact out a (by simp [m]) (z ▸ m')
    · exact m3 a m b m' z
  · have up : ∀ a ∈ fp2 ++ ex2, a ∈ C.In ∨ C.G a = none := fun a m => by
      rcases r.own a m with y | y
      · exact h.own a (by have y : a ∈ fp := y; simp [y])
      · exact .inr (h.fresh y)
    rcases List.mem_append.mp m with m | m
    · exact up a (by simp [m])
    · rcases List.mem_append.mp m with m | m
      · exact h.own a (by simp [m])
      · exact up a (by simp [m])
  · refine r.frame b u (h.frame b u q n nt) (fun z => ?_) nt
    rcases h.own b (by have z : b ∈ fp := z; simp [z]) with y | y
    · exact n y
    · rw [q] at y; cases y
theorem RelP.base2 {C : Fx} {ρ : Env} {σ : L2.St} {H : Hp} {fp ex : List Addr} (h : RelP W C ρ σ H fp ex) : RelP W ⟨H, fp, C.fix⟩ ρ σ H fp [] :=
  ⟨h.slots, by simpa using (List.nodup_append.mp h.nd).1, fun a m => .inl (by simpa using m), fun _ _ e _ _ => e, fun _ e => e, h.fix, h.tabs⟩

variable {e : Expr} {es : List Expr}
theorem sb_anil : PA X [] (tAs W Wx fun ρ => .ok [] ρ) :=
  pa_nil.mono fun σ H Q ⟨C, ρ, ⟨fp, rel⟩, q⟩ => q [] H (Ext.refl _) ⟨fp, [], .nil, rel⟩
theorem sb_aio {i : Nat} {x : Str} {er : Env → Out (List Ar)} (hN : X.N[i]? = some x) (hv : Vis X.env.scope x) (hd : (x == ("__debug__" : Str)) = false) (hcd : (x == ("__classdict__" : Str)) = false) (hr : PA X es (tAs W Wx er)) :
    PA X (.Name x p :: es) (tAs W Wx fun ρ => if boundS ρ i then (er ρ).bind fun as ρ => .ok (.io i :: as) ρ else .bad) := by
  refine (pa_cons (pe_var (pos := p) hN hv hd hcd) hr (plain_star fun _ _ z => nomatch z)).mono fun σ H Q ⟨C, ρ, rel, q⟩ => ?_
  cases hb : boundS ρ i with
  | false => simp only [hb] at q; exact q.elim
  | true =>
    simp only [hb, if_true] at q
    obtain ⟨v, ev⟩ := rel.bound hb
    refine ⟨v, ev, C, ρ, rel, ?_⟩
    cases eo : er ρ with
    | bad => simp only [eo, Out.bind] at q; exact q.elim
    | exc d ρ1 => simp only [eo, Out.bind] at q; exact q
    | ok as ρ1 =>
      simp only [eo, Out.bind] at q
      exact fun vs H' e' ⟨fp, ex, ar, r⟩ => q (v :: vs) H' e' ⟨fp, ex, .io ev ar, r⟩
theorem sb_atm {ea : Env → Out T} {er : Env → Out (List Ar)} (hs : isStar e = false) (ha : PE X e (tE W Wx ea)) (hr : PA X es (tAs W Wx er)) :
    PA X (e :: es) (tAs W Wx fun ρ => (ea ρ).bind fun t ρ => (er ρ).bind fun as ρ => .ok (.tm t :: as) ρ) := by
  refine (pa_cons ha hr (plain_star (isStar_ne hs))).mono fun σ H Q ⟨C, ρ, rel, q⟩ => ⟨C, ρ, rel, ?_⟩
  cases eo : ea ρ with
  | bad => simp only [eo, Out.bind] at q; exact q.elim
  | exc d ρ1 => simp only [eo, Out.bind] at q; exact q
  | ok t ρ1 =>
    simp only [eo, Out.bind] at q
    intro v H1 e1 ⟨fp, ft, ow, r1⟩
    refine ⟨⟨H1, fp, C.fix⟩, ρ1, ⟨fp, r1.base2⟩, ?_⟩
    cases eo2 : er ρ1 with
    | bad => simp only [eo2] at q; exact q.elim
    | exc d ρ2 => simp only [eo2] at q; exact xWay.rebase r1 ow.live e1 q
    | ok as ρ2 =>
      simp only [eo2] at q
      intro vs H2 e2 ⟨fp2, ex2, ar, r2⟩
      obtain ⟨ke, r3⟩ := r1.back2 ow.live r2
      exact q (v :: vs) H2 (e1.trans e2) ⟨fp2, ft ++ ex2, .tm (ow.ext e2 ke) ar, r3⟩

theorem sb_afz {ea : Env → Out D} {er : Env → Out (List Ar)} (hs : isStar e = false) (ha : PE X e (tD W Wx ea)) (hr : PA X es (tAs W Wx er)) :
    PA X (e :: es) (tAs W Wx fun ρ => (ea ρ).bind fun d ρ => (er ρ).bind fun as ρ => .ok (.tm (.fr d) :: as) ρ) := by
  refine (pa_cons ha hr (plain_star (isStar_ne hs))).mono fun σ H Q ⟨C, ρ, rel, q⟩ => ⟨C, ρ, rel, ?_⟩
  cases eo : ea ρ with
  | bad => simp only [eo, Out.bind] at q; exact q.elim
  | exc d ρ1 => simp only [eo, Out.bind] at q; exact q
  | ok d ρ1 =>
    simp only [eo, Out.bind] at q
    intro v H1 e1 rel1 rp
    refine ⟨C, ρ1, rel1, ?_⟩
    cases eo2 : er ρ1 with
    | bad => simp only [eo2] at q; exact q.elim
    | exc d2 ρ2 => simp only [eo2] at q; exact xWay.mono e1 q
    | ok as ρ2 =>
      simp only [eo2] at q
      intro vs H2 e2 ⟨fp2, ex2, ar, r2⟩
      exact q (v :: vs) H2 (e1.trans e2) ⟨fp2, ex2, ArsR.tm (f := []) (.fr (rp.ext e2)) ar, r2⟩

/-! ### the arguments' slots -/
theorem SlRs.valAt {H : Hp} {ρ : Env} {σ : L2.St} {fp : List Addr} {i : Nat} {d : D} (h : SlRs W H ρ σ fp) (e : ρ[i]? = some (.val d)) : ∃ v, σ[i]? = some (some v) ∧ Rep W H d v := by
  obtain ⟨o, f1, f2, f3, h1, _, h3, _⟩ := h.at e
  cases h3 with
  | val r => exact ⟨_, h1, r⟩
theorem own_fr {H : Hp} {d : D} {v : V} {f : List Addr} (h : Own W H (.fr d) v f) : Rep W H d v ∧ f = [] := by
  cases h with
  | fr r => exact ⟨r, rfl⟩
/-- the own one is not among these -/
theorem arSl_none {H : Hp} {ρ : Env} {σ : L2.St} {fp : List Addr} (sl : SlRs W H ρ σ fp) : ∀ {as : List Ar} {vs : List V} {ex : List Addr} {args : Env}, ArsR W H σ as vs ex → arSl ρ as = some (args, none) → ex = [] ∧ SlRs W H args (vs.map some) []
  | [], _, _, _, .nil, e => by simp [arSl] at e; subst e; exact ⟨rfl, .nil⟩
  | .tm t :: as, _, _, args, .tm h r, e => by
    simp only [arSl] at e
    cases t with
    | fr d =>
      cases er : arSl ρ as with
      | none => rw [er] at e; cases e
      | some z =>
        obtain ⟨ss, o⟩ := z
        rw [er] at e
        cases o with
        | some _ => simp at e
        | none =>
          simp at e; subst e
          obtain ⟨h1, rfl⟩ := own_fr h
          obtain ⟨rfl, h2⟩ := arSl_none sl r er
          exact ⟨rfl, .cons (.val h1) h2⟩
    | _ =>
      cases er : arSl ρ as with
      | none => rw [er] at e; cases e
      | some z =>
        obtain ⟨ss, o⟩ := z
        rw [er] at e
        cases o <;> simp at e
  | .io i :: as, _, _, args, .io h r, e => by
    simp only [arSl] at e
    cases es : ρ[i]? with
    | none => rw [es] at e; cases e
    | some s =>
      cases er : arSl ρ as with
      | none => rw [es, er] at e; cases s <;> cases e
      | some z =>
        obtain ⟨ss, o⟩ := z
        rw [es, er] at e
        cases s with
        | unb => cases e
        | own t => cases o <;> simp at e
        | val d =>
          cases o with
          | some _ => simp at e
          | none =>
            simp at e; subst e
            obtain ⟨v, h1, h2⟩ := sl.valAt es
            rw [h] at h1; cases h1
            obtain ⟨rfl, h3⟩ := arSl_none sl r er
            exact ⟨rfl, .cons (.val h2) h3⟩
/-- the own one is a name's -/
theorem arSl_io {H : Hp} {ρ : Env} {σ : L2.St} {fp f2 : List Addr} {i0 : Nat} {t0 : T} {v0 : V} (sl : SlRs W H ρ σ fp) (e0 : ρ[i0]? = some (.own t0)) (s0 : σ[i0]? = some (some v0)) (ow : Own W H t0 v0 f2) : ∀ {as : List Ar} {vs : List V} {ex : List Addr} {args : Env} {p0 : Nat}, ArsR W H σ as vs ex →
    arSl ρ as = some (args, some (p0, some i0)) → ex = [] ∧ SlRs W H args (vs.map some) f2 ∧ args[p0]? = some (.own t0) ∧ vs[p0]? = some v0
  | [], _, _, _, _, .nil, e => by simp [arSl] at e
  | .tm t :: as, _, _, args, p0, .tm h r, e => by
    simp only [arSl] at e
    cases t with
    | fr d =>
      cases er : arSl ρ as with
      | none => rw [er] at e; cases e
      | some z =>
        obtain ⟨ss, o⟩ := z
        rw [er] at e
        cases o with
        | none => simp at e
        | some q =>
          obtain ⟨q1, q2⟩ := q
          simp at e
          obtain ⟨e1, e2, e3⟩ := e
          subst e1 e2 e3
          obtain ⟨h1, rfl⟩ := own_fr h
          obtain ⟨rfl, h2, h3, h4⟩ := arSl_io sl e0 s0 ow r er
          exact ⟨rfl, .cons (.val h1) h2, by simpa using h3, by simpa using h4⟩
    | _ =>
      cases er : arSl ρ as with
      | none => rw [er] at e; cases e
      | some z =>
        obtain ⟨ss, o⟩ := z
        rw [er] at e
        cases o <;> simp at e
  | .io i :: as, _, _, args, p0, .io h r, e => by
    simp only [arSl] at e
    cases es : ρ[i]? with
    | none => rw [es] at e; cases e
    | some s =>
      cases er : arSl ρ as with
      | none => rw [es, er] at e; cases s <;> cases e
      | some z =>
        obtain ⟨ss, o⟩ := z
        rw [es, er] at e
        cases s with
        | unb => cases e
        | own t =>
          cases o with
          | some _ => simp at e
          | none =>
            simp at e
            obtain ⟨e1, e2, e3⟩ := e
            subst e1 e2 e3
            rw [e0] at es; cases es
            rw [s0] at h; cases h
            obtain ⟨rfl, h3⟩ := arSl_none sl r er
            refine ⟨rfl, ?_, rfl, rfl⟩
            have := SlRs.cons (SlR.own ow) h3
            simpa using this
        | val d =>
          cases o with
          | none => simp at e
          | some q =>
            obtain ⟨q1, q2⟩ := q
            simp at e
            obtain ⟨e1, e2, e3⟩ := e
            subst e1 e2 e3
            obtain ⟨v, h1, h2⟩ := sl.valAt es
            rw [h] at h1; cases h1
            obtain ⟨rfl, h3, h4, h5⟩ := arSl_io sl e0 s0 ow r er
            exact ⟨rfl, .cons (.val h2) h3, by simpa using h4, by simpa using h5⟩
/-- the own one was just made -/
theorem arSl_tm {H : Hp} {ρ : Env} {σ : L2.St} {fp : List Addr} (sl : SlRs W H ρ σ fp) : ∀ {as : List Ar} {vs : List V} {ex : List Addr} {args : Env} {p0 : Nat}, ArsR W H σ as vs ex →
    arSl ρ as = some (args, some (p0, none)) → SlRs W H args (vs.map some) ex
  | [], _, _, _, _, .nil, e => by simp [arSl] at e
  | .tm t :: as, _, _, args, p0, .tm (v := v') (f := f') (vs := vs') (fs := fs') h r, e => by
    simp only [arSl] at e
    have own : (∀ d, t ≠ .fr d) → arSl ρ (.tm t :: as) = some (args, some (p0, none)) → SlRs W H args (List.map some (v' :: vs')) (f' ++ fs') := fun hn e => by
      cases er : arSl ρ as with
      | none => cases t <;> simp only [arSl, er] at e <;> cases e
      | some z =>
        obtain ⟨ss, o⟩ := z
        cases o with
        | some _ => cases t <;> simp only [arSl, er] at e <;> first | cases e | exact absurd rfl (hn _)
        | none =>
          obtain ⟨rfl, h3⟩ := arSl_none sl r er
          have e1 : args = .own t :: ss := by cases t <;> simp only [arSl, er] at e <;> first | exact absurd rfl (hn _) | (simp at e; exact e.1.symm)
          subst e1
          exact .cons (.own h) h3
    cases t with
    | fr d =>
      cases er : arSl ρ as with
      | none => rw [er] at e; cases e
      | some z =>
        obtain ⟨ss, o⟩ := z
        rw [er] at e
        cases o with
        | none => simp at e
        | some q =>
          obtain ⟨q1, q2⟩ := q
          simp at e
          obtain ⟨e1, e2, e3⟩ := e
          subst e1 e2 e3
          obtain ⟨h1, rfl⟩ := own_fr h
          exact .cons (.val h1) (arSl_tm sl r er)
    | lst ts => exact own (fun _ z => nomatch z) (by simp only [arSl]; exact e)
    | dic ks ts => exact own (fun _ z => nomatch z) (by simp only [arSl]; exact e)
    | ins c ts => exact own (fun _ z => nomatch z) (by simp only [arSl]; exact e)
  | .io i :: as, _, _, args, p0, .io h r, e => by
    simp only [arSl] at e
    cases es : ρ[i]? with
    | none => rw [es] at e; cases e
    | some s =>
      cases er : arSl ρ as with
      | none => rw [es, er] at e; cases s <;> cases e
      | some z =>
        obtain ⟨ss, o⟩ := z
        rw [es, er] at e
        cases s with
        | unb => cases e
        | own t => cases o <;> simp at e
        | val d =>
          cases o with
          | none => simp at e
          | some q =>
            obtain ⟨q1, q2⟩ := q
            simp at e
            obtain ⟨e1, e2, e3⟩ := e
            subst e1 e2 e3
            obtain ⟨v, h1, h2⟩ := sl.valAt es
            rw [h] at h1; cases h1
            exact .cons (.val h2) (arSl_tm sl r er)
theorem live_ntbl {H : Hp} {a : Addr} (l : Live H a) : ∃ o, H a = some o ∧ ∀ ps, o ≠ .tbl ps := by
  rcases l with ⟨_, h⟩ | ⟨_, h⟩ | ⟨_, _, _, h⟩ <;> exact ⟨_, h, fun _ z => nomatch z⟩
/-- behind a call that was given nothing of ours, or what was just made -/
theorem back_plain {C : Fx} {ρ : Env} {σ : L2.St} {H H' : Hp} {fp ex ft : List Addr} {vs : List V} {fin : Env} (r : RelP W C ρ σ H fp ex) (q : PostC W vs H ex H' fin ft) : RelP W C ρ σ H' fp ft := by
  obtain ⟨fs, s1, s2, s3⟩ := q.own
  obtain ⟨n1, n2, n3⟩ := List.nodup_append.mp r.nd
  obtain ⟨m1, m2, m3⟩ := List.nodup_append.mp s2
  have kp : ∀ a ∈ fp, H' a = H a := fun a m => by
    obtain ⟨o, h1, h2⟩ := live_ntbl (r.slots.live a m)
    rw [h1]; exact q.keep a o h1 (fun z => n3 a m a z rfl) h2
  refine ⟨r.slots.ext q.ext kp, List.nodup_append.mpr ⟨n1, m2, fun a m b m' z => ?_⟩, fun a m => ?_, fun b u g n nt => ?_, fun b g => q.dom b (r.dom b g), r.fix, q.tabs⟩
  · subst z
    rcases s3 a (by simp [m']) with y | y
    · exact n3 a m a y rfl
    · obtain ⟨o, h1, _⟩ := live_ntbl (r.slots.live a m)
      rw [y] at h1; cases h1
  · rcases List.mem_append.mp m with m | m
    · exact r.own a (by simp [m])
    · rcases s3 a (by simp [m]) with y | y
      · exact r.own a (by simp [y])
      · exact .inr (r.fresh y)
  · refine q.keep b u (r.frame b u g n nt) (fun z => ?_) nt
    rcases r.own b (by simp [z]) with y | y
    · exact n y
    · rw [g] at y; cases y
/-- behind a call that was given a name's own thing -/
theorem back_io {C : Fx} {ρ : Env} {σ : L2.St} {H H' : Hp} {f1 f2 f3 ft : List Addr} {i p0 : Nat} {v0 : V} {s : Sl} {vs : List V} {fin : Env} (r : RelP W C ρ σ H (f1 ++ (f2 ++ f3)) []) (si : σ[i]? = some (some v0))
    (mk : ∀ (H' : Hp) (s' : Sl) (o' : Option V) (f' : List Addr), Ext H H' → (∀ a ∈ f1 ++ f3, H' a = H a) → SlR W H' s' o' f' → SlRs W H' (ρ.set i s') (σ.set i o') (f1 ++ (f' ++ f3)))
    (q : PostC W vs H f2 H' fin ft) (hv : vs[p0]? = some v0) (hf : fin[p0]? = some s) : ∃ fp', RelP W C (ρ.set i s) σ H' fp' ft := by
  obtain ⟨fs, s1, s2, s3⟩ := q.own
  have nd := r.nd
  simp only [List.append_nil] at nd
  obtain ⟨n1, n2, n3⟩ := List.nodup_append.mp nd
  obtain ⟨l1, l2, l3⟩ := List.nodup_append.mp n2
  have lv := r.slots.live
  have k13 : ∀ a ∈ f1 ++ f3, a ∉ f2 := fun a m z => by
    rcases List.mem_append.mp m with m | m
    · exact n3 a m a (by simp [z]) rfl
    · exact l3 a z a m rfl
  have kp : ∀ a ∈ f1 ++ f3, H' a = H a := fun a m => by
    obtain ⟨o, h1, h2⟩ := live_ntbl (lv a (by simp at m ⊢; rcases m with m | m <;> simp [m]))
    rw [h1]; exact q.keep a o h1 (k13 a m) h2
  obtain ⟨o', g1, g2, g3, e1, e2, e3, _⟩ := s1.at hf
  have ev : o' = some v0 := by
    rw [List.getElem?_map, hv] at e1
    exact (Option.some.inj e1).symm
  subst ev
  have es := mk H' s (some v0) g2 q.ext kp e3
  rw [set_same si] at es
  subst e2
  obtain ⟨m1, m2, m3⟩ := List.nodup_append.mp s2
  obtain ⟨m4, m5, m6⟩ := List.nodup_append.mp m1
  obtain ⟨m7, m8, m9⟩ := List.nodup_append.mp m5
  have new : ∀ a ∈ g2 ++ ft, a ∉ f1 ++ f3 := fun a m z => by
    rcases s3 a (by simp at m ⊢; rcases m with m | m <;> simp [m]) with y | y
    · exact k13 a z y
    · obtain ⟨o, h1, _⟩ := live_ntbl (lv a (by simp at z ⊢; rcases z with z | z <;> simp [z]))
      rw [y] at h1; cases h1
  refine ⟨f1 ++ (g2 ++ f3), es, ?_, fun a m => ?_, fun b u g n nt => ?_, fun b g => q.dom b (r.dom b g), r.fix, q.tabs⟩
  · refine List.nodup_append.mpr ⟨List.nodup_append.mpr ⟨n1, List.nodup_append.mpr ⟨m7, l2, fun a m b m' z => new a (by simp [m]) (by simp [z, m'])⟩, fun a m b m' z => ?_⟩, m2, fun a m b m' z => ?_⟩
    · rcases List.mem_append.mp m' with m' | m'
      · exact new b (by simp [m']) (by simp [← z, m])
      · exact n3 a m b (by simp [m']) z
    · rcases List.mem_append.mp m with m | m
      · exact new b (by simp [m']) (by simp [← z, m])
      · rcases List.mem_append.mp m with m | m
        · exact m3 a (by simp [m]) b m' z
        · exact new b (by simp [m']) (by simp [← z, m])
  · have up : ∀ a, (a ∈ f2 ∨ H a = none) → a ∈ C.In ∨ C.G a = none := fun a y => by
      rcases y with y | y
      · exact r.own a (by simp [y])
      · exact .inr (r.fresh y)
    rcases List.mem_append.mp m with m | m
    · rcases List.mem_append.mp m with m | m
      · exact r.own a (by simp [m])
      · rcases List.mem_append.mp m with m | m
        · exact up a (s3 a (by simp [m]))
        · exact r.own a (by simp [m])
    · exact up a (s3 a (by simp [m]))
  · refine q.keep b u (r.frame b u g n nt) (fun z => ?_) nt
    rcases r.own b (by simp [z]) with y | y
    · exact n y
    · rw [g] at y; cases y
/-- what a call is given, and the way back -/
theorem call_way {C : Fx} {ρ : Env} {σ : L2.St} {H : Hp} {as : List Ar} {vs : List V} {args : Env} {o : Option (Nat × Option Nat)} (r : RelA W C ρ σ H as vs) (e : arSl ρ as = some (args, o)) :
    ∃ In, SlRs W H args (vs.map some) In ∧ In.Nodup ∧ ∀ H' fin ft ρ', PostC W vs H In H' fin ft → backAr ρ fin o = some ρ' → ∃ fp', RelP W C ρ' σ H' fp' ft := by
  obtain ⟨fp, ex, ar, r⟩ := r
  obtain ⟨n1, n2, n3⟩ := List.nodup_append.mp r.nd
  rcases o with _ | ⟨p0, _ | i⟩
  · obtain ⟨rfl, h1⟩ := arSl_none r.slots ar e
    exact ⟨[], h1, by simp, fun H' fin ft ρ' q b => by simp [backAr] at b; subst b; exact ⟨fp, back_plain r q⟩⟩
  · have h1 := arSl_tm r.slots ar e
    exact ⟨ex, h1, n2, fun H' fin ft ρ' q b => by simp [backAr] at b; subst b; exact ⟨fp, back_plain r q⟩⟩
  · have hown : ∃ t0, ρ[i]? = some (.own t0) := by
      clear r n1 n2 n3
      induction as generalizing vs ex args p0 with
      | nil => simp [arSl] at e
      | cons a as ih =>
        cases a with
        | tm t =>
          simp only [arSl] at e
          cases er : arSl ρ as with
          | none => rw [er] at e; cases t <;> cases e
          | some z =>
            obtain ⟨ss, o⟩ := z
            rw [er] at e
            cases ar with
            | tm _ ar =>
              cases t <;> cases o <;> simp at e
              rename_i q
              obtain ⟨q1, q2⟩ := q
              simp at e
              obtain ⟨e1, e2, e3⟩ := e
              subst e3
              first | exact ih _ ar er | (apply ih <;> assumption)
        | io j =>
          simp only [arSl] at e
          cases ar with
          | io _ ar =>
            cases es : ρ[j]? with
            | none => rw [es] at e; cases e
            | some s =>
              cases er : arSl ρ as with
              | none => rw [es, er] at e; cases s <;> cases e
              | some z =>
                obtain ⟨ss, o⟩ := z
                rw [es, er] at e
                cases s with
                | unb => cases e
                | own t =>
                  cases o with
                  | some _ => simp at e
                  | none => simp at e; obtain ⟨_, _, e3⟩ := e; subst e3; exact ⟨t, es⟩
                | val d =>
                  cases o with
                  | none => simp at e
                  | some q =>
                    obtain ⟨q1, q2⟩ := q
                    simp at e
                    obtain ⟨e1, e2, e3⟩ := e
                    subst e3
                    first | exact ih _ ar er | (apply ih <;> assumption)
    obtain ⟨t0, e0⟩ := hown
    obtain ⟨ov, f1, f2, f3, h1, h2, h3, h4⟩ := r.slots.at e0
    cases h3 with
    | own ow =>
      rename_i v0
      subst h2
      obtain ⟨rfl, k1, k2, k3⟩ := arSl_io r.slots e0 h1 ow ar e
      have nf2 : f2.Nodup := by
        have := (List.nodup_append.mp n1).2.1
        exact (List.nodup_append.mp this).1
      refine ⟨f2, k1, nf2, fun H' fin ft ρ' q b => ?_⟩
      simp only [backAr] at b
      obtain ⟨s, b1, rfl⟩ := Option.map_eq_some_iff.mp b
      exact back_io r h1 h4 q k3 b1
end
end Eg
set_option Elab.async false
set_option linter.all false
set_option maxRecDepth 100000
set_option maxHeartbeats 4000000
/-! the engine: calls, attributes, methods -/
namespace Eg
open PySem PySem.Spec PyProof.Rows L2

/-- a def of the text: its index, its place -/
structure FnAt (W : Wd) (X : Cx) (F : Nat → Env → OutF) (f : Nat) (fa : Addr) : Prop where
  ok : ∃ (k : Nat) (fd : FuncData) (ps : List Str), FnE W X.prog X.w X.mg X.base k fa fd ps (F f) ∧ Room (k + 1) X.A ∧ Binds X.K fd ps []
  kp : PySem.W.keepIn X.K (.ref fa) = true

section
variable {W : Wd} {Wx : WX} {X : Cx} {pos p : Pos}
theorem inv_env0 {pins : List (Addr × Obj)} {σ : L2.St} {H : Hp} {s : Shared} (hK : X.K = W.K) (I : Inv X pins σ H s) : Env0 X.prog X.w W.K X.mg X.base X.A X.stack s H := hK ▸ I.env0
theorem run_call {pins : List (Addr × Obj)} {σ : L2.St} {H : Hp} {s : Shared} {Q : VK} {C : Fx} {ρ : Env} {as : List Ar} {vs : List V} {us : List Value} {F : Nat → Env → OutF} {f : Nat} {fa : Addr} (g : GX W Wx X) (A : FnAt W X F f fa) (I : Inv X pins σ H s) (r : Vals vs us)
    (rel : RelA W C ρ σ H as vs) (q : wE W C Wx (callF F f as ρ) σ H Q) : wpAny (model X.prog X.w) X.A (call (.ref fa) us) (EP X pins σ Q) X.xe s := by
  obtain ⟨k, fd, ps, FE, hr, hb⟩ := A.ok
  unfold callF at q
  cases ea : arSl ρ as with
  | none => rw [ea] at q; exact q.elim
  | some z =>
    obtain ⟨args, o⟩ := z
    rw [ea] at q
    simp only at q
    obtain ⟨In, sl, nd, way⟩ := call_way rel ea
    have tabs : LamX.Tabs W.T H := let ⟨_, _, _, h⟩ := rel; h.tabs
    have hlen : args.length = us.length := by have := sl.length; rw [this, List.length_map]; exact r.length
    have nb : F f args ≠ .bad := fun z => by rw [z] at q; exact q.elim
    have hl : (us ++ []).length = ps.length := by rw [List.append_nil, ← hlen]; exact FE.len _ nb
    have hq : wF W vs H In (F f args) Q (fun cls dx H' => Wx cls dx σ H') := by
      cases ef : F f args with
      | bad => exact absurd ef nb
      | ret t fin =>
        rw [ef] at q
        simp only at q
        intro v H' ft ow pc
        cases eb : backAr ρ fin o with
        | none => rw [eb] at q; exact q.elim
        | some ρ' =>
          rw [eb] at q
          obtain ⟨fp', rp⟩ := way H' fin ft ρ' pc eb
          exact q v H' pc.ext ⟨fp', ft, ow, rp⟩
      | exc d fin =>
        rw [ef] at q
        simp only at q
        intro cls dx H' rx pc
        cases eb : backAr ρ fin o with
        | none => rw [eb] at q; exact q.elim
        | some ρ' =>
          rw [eb] at q
          obtain ⟨fp', rp⟩ := way H' fin [] ρ' pc eb
          exact q cls dx H' pc.ext rx ⟨fp', rp⟩
    have hbb := hb s us I.kIn hl
    rw [List.append_nil] at hbb
    refine wpAny_call (codeAny_mono (FE.run X.A X.stack s H ⟨us, []⟩ us vs args In Q _ (hr.mono (Nat.le_succ _)) g.hg (inv_env0 g.hK I) hbb r sl nd tabs hq) fun rr s' hq' => ?_)
    cases rr with
    | error e => exact g.tk e s' (XE.of_call I (fun _ _ _ h => h) hq')
    | ok fl =>
      cases fl with
      | ret u => exact I.after hq'
      | next => exact False.elim hq'
      | brk => exact False.elim hq'
      | cont => exact False.elim hq'
variable {es : List Expr} {eas : Env → Out (List Ar)}
theorem as_go {C : Fx} {ρ : Env} {σ : L2.St} {H : Hp} {Q : VK} {k : List Ar → Env → Out T} (q : wE W C Wx ((eas ρ).bind k) σ H Q) : wAs W C Wx (eas ρ) σ H (fun vs H1 => ∃ as ρ1, RelA W C ρ1 σ H1 as vs ∧ wE W C Wx (k as ρ1) σ H1 Q) := by
  cases eo : eas ρ with
  | bad => simp only [eo, Out.bind] at q; exact q.elim
  | exc d ρ1 => simp only [eo, Out.bind] at q; exact q
  | ok as ρ1 =>
    simp only [eo, Out.bind] at q
    exact fun vs H' e' ra => ⟨as, ρ1, ra, wE.mono e' q⟩
/-- f(..) of the text -/
theorem sb_call {x : Str} {e : Expr} {F : Nat → Env → OutF} {f : Nat} {fa : Addr} (g : GX W Wx X) (A : FnAt W X F f fa) (hg : Gl X x) (hm : X.mg x = some (.ref fa)) (hdb : (x == ("__debug__" : Str)) = false) (hs : ((e :: es).all fun e => !isStar e) = true) (ha : PA X (e :: es) (tAs W Wx eas)) :
    PE X (.Call (.Name x p) (e :: es) [] pos) (tE W Wx fun ρ => (eas ρ).bind fun as ρ => callF F f as ρ) := by
  refine ⟨fun pins s σ H Q I ⟨C, ρ, rel, q⟩ => ?_⟩
  refine wpAny_Call_Name_kw (ld_glob I hg hm ?_ hdb)
  simp only [List.all_cons, Bool.and_eq_true, Bool.not_eq_true'] at hs
  refine PySem.W.callWith_K (h₀ := X.base) I.ok.mod.kin A.kp (thn (ha.run pos pins s σ H _ I ⟨C, ρ, rel, as_go q⟩) fun us s1 ⟨vs, H1, I1, r, as, ρ1, ra, q1⟩ => ⟨I1.kIn, ?_⟩) (plain_star (isStar_ne hs.1)) (nostar_any hs.2)
  exact run_call g A I1 r ra q1
theorem relA_nil {C : Fx} {ρ : Env} {σ : L2.St} {H : Hp} (h : Rel W C ρ σ H) : RelA W C ρ σ H [] [] := let ⟨fp, h⟩ := h; ⟨fp, [], .nil, h⟩
theorem sb_call0 {x : Str} {F : Nat → Env → OutF} {f : Nat} {fa : Addr} (g : GX W Wx X) (A : FnAt W X F f fa) (hg : Gl X x) (hm : X.mg x = some (.ref fa)) (hdb : (x == ("__debug__" : Str)) = false) :
    PE X (.Call (.Name x p) [] [] pos) (tE W Wx fun ρ => callF F f [] ρ) := by
  refine ⟨fun pins s σ H Q I ⟨C, ρ, rel, q⟩ => ?_⟩
  refine wpAny_Call_Name_kw (ld_glob I hg hm ?_ hdb)
  exact PySem.W.callWith_K0 I.kIn A.kp (run_call (us := []) g A I .nil (relA_nil rel) q)

/-! ### attributes -/
variable {a : Expr} {ea : Env → Out T}
/-- what the classes' names come to -/
structure FldOk (W : Wd) (S : Stat) (nm : Nat → Str) : Prop where
  fld : ∀ c n k, S.fld c n = some k → Cls W.K (W.cA c) ∧ NoAttr W.K (W.cA c) (nm n) ∧ (W.fl c)[k]? = some (nm n)
  nd : ∀ c, (W.fl c).Nodup
  val : nm 0 = ("value" : Str)
  exv : ∀ c, S.isX c = true → c < S.nC → PySem.W.findIn W.K (.ref (W.cA c)) "value" = some none ∧ PySem.W.hasDictIn W.K (W.cA c) = true
theorem zip_look {f : Str} {v : V} : ∀ {fl : List Str} {vs : List V} {k : Nat}, fl.Nodup → fl[k]? = some f → vs[k]? = some v → (fl.zip vs).lookup f = some v
  | [], _, _, _, h, _ => by simp at h
  | _ :: _, [], _, _, _, h => by simp at h
  | g :: fl, w :: vs, 0, _, h1, h2 => by simp at h1 h2; subst h1 h2; simp [List.lookup]
  | g :: fl, w :: vs, k + 1, nd, h1, h2 => by
    have hne : f ≠ g := fun z => (List.nodup_cons.mp nd).1 (z ▸ List.mem_of_getElem? (by simpa using h1))
    have hb : (f == g) = false := beq_eq_false_iff_ne.mpr hne
    simp only [List.zip_cons_cons, List.lookup, hb]
    exact zip_look (List.nodup_cons.mp nd).2 (by simpa using h1) (by simpa using h2)
/-- an instance's field, known or not -/
theorem ins_fld {pins : List (Addr × Obj)} {σ : L2.St} {H : Hp} {s : Shared} {x C dx : Addr} {fs : List (Str × V)} {f : Str} {v : V} {b : Bool} {Q : Value → Shared → Prop} (I : Inv X pins σ H s) (h : ObjOk X.prog X.w H s.heap x (.ins C dx fs)) (c : Cls X.K C) (n : NoAttr X.K C f) (l : fs.lookup f = some v)
    (q : ∀ u s', Inv X pins σ H s' → RelV v u → Q u s') : wpAny (model X.prog X.w) X.A (getAttr (.ref x) f b) Q X.xe s := by
  obtain ⟨d, z, ne, ob, mA, ns, r, wi⟩ := h
  obtain ⟨u, hu, ru⟩ := RelO.some_of (v := v) (o := mA f) (by rw [← l]; exact r f)
  exact get_map I.kIn ⟨ob, ns, ne⟩ (c.get f) c.hd n hu (handed_of ru) (q u _ (I.tok _) ru)
/-- an exception's value -/
theorem exc_fld {pins : List (Addr × Obj)} {σ : L2.St} {H : Hp} {s : Shared} {x C : Addr} {v : V} {b : Bool} {Q : Value → Shared → Prop} (I : Inv X pins σ H s) (h : ExF H x C [("value", v)]) (c : ClsE X.K C) (hd : PySem.W.hasDictIn X.K C = true) (n : PySem.W.findIn X.K (.ref C) "value" = some none)
    (q : ∀ u s', Inv X pins σ H s' → RelV v u → Q u s') : wpAny (model X.prog X.w) X.A (getAttr (.ref x) "value" b) Q X.xe s := by
  obtain ⟨oe, dx, ⟨o, h1⟩, h2, h3, ⟨w, h4⟩, ⟨o2, h5⟩⟩ := h
  obtain ⟨_, q1, _⟩ := I.hok x _ h1
  obtain ⟨q2, mA, hn, rel⟩ := I.hok dx _ h5
  obtain ⟨od, hod, hl⟩ := lookIn_ns hn
  have no : PySem.W.notCls oe = true := by unfold PySem.W.notCls; rw [h4]
  have J : PySem.W.InstAt s.heap x oe C (some od) := ⟨q1, h2, no, by rw [h3]; exact hod⟩
  have r := rel "value"
  have e : List.lookup ("value" : Str) [(("value" : Str), v)] = some v := by simp [List.lookup]
  rw [e] at r
  obtain ⟨u, hu, ru⟩ := RelO.some_of r
  exact PySem.PX.exc_get I.kIn J c.hga c.hgt c.hsub (PySem.W.findObj_own hd n rfl (by rw [hl, hu])) (handed_of ru) (q u _ (I.tok _) ru)
theorem reps_own {H : Hp} {ts : List T} {vs : List V} {fp : List Addr} {k : Nat} {d : D} : Owns W H ts vs fp → ts[k]? = some (.fr d) → ∃ v, vs[k]? = some v ∧ Rep W H d v := by
  intro h
  induction k generalizing ts vs fp with
  | zero =>
    intro e
    cases h with
    | nil => simp at e
    | cons h r => simp at e; subst e; exact ⟨_, rfl, (own_fr h).1⟩
  | succ k ih =>
    intro e
    cases h with
    | nil => simp at e
    | cons h r =>
      obtain ⟨v, h1, h2⟩ := ih r (by simpa using e)
      exact ⟨v, by simpa using h1, h2⟩
/-- e.f, by a property: the getter is called -/
theorem run_prop {pins : List (Addr × Obj)} {σ : L2.St} {H : Hp} {s : Shared} {Q : VK} {C : Fx} {ρ : Env} {F : Nat → Env → OutF} {f c : Nat} {pa ga x dx : Addr} {nm : Str} {fs : List (Str × V)} {ds : List D} {t : T} {fin : Env} {b : Bool} (g : GX W Wx X) (A : FnAt W X F f ga) (I : Inv X pins σ H s) (rel : Rel W C ρ σ H)
    (h : ObjOk X.prog X.w H s.heap x (.ins (W.cA c) dx fs)) (rp : Rep W H (.ins c ds) (.ref x)) (cl : Cls X.K (W.cA c)) (hp : PropOf X.K (W.cA c) nm pa ga) (ef : F f [.val (.ins c ds)] = .ret t fin) (q : ∀ v H', Ext H H' → RelT W C ρ σ H' t v → Q v H') :
    wpAny (model X.prog X.w) X.A (getAttr (.ref x) nm b) (EP X pins σ Q) X.xe s := by
  obtain ⟨k, fd, ps, FE, hr, hb⟩ := A.ok
  obtain ⟨mA, O⟩ := insM h
  obtain ⟨od, J, _⟩ := O.look
  obtain ⟨rest, hrec⟩ := hp.rec_
  have I1 := I.tok (s.toks + 1)
  have hl0 : [Sl.val (D.ins c ds)].length = ps.length := FE.len _ (by rw [ef]; exact fun z => nomatch z)
  have hl : ([Value.ref x] ++ []).length = ps.length := hl0
  have hc : (PySem.W.clsIn X.K (W.cA c)).isSome = true := by
    obtain ⟨cd, hc, _⟩ := PySem.W.any_some cl.hd
    rw [hc]; rfl
  obtain ⟨fp, rl⟩ := rel
  have hq : wF W [.ref x] H [] (F f [.val (.ins c ds)]) Q (fun _ _ _ => False) := by
    rw [ef]
    exact fun v H' ft ow pc => q v H' pc.ext ⟨fp, ft, ow, back_plain rl pc⟩
  have sl : SlRs W H [.val (.ins c ds)] ([V.ref x].map some) [] := .cons (.val rp) .nil
  have hbb := hb { s with toks := s.toks + 1 } [.ref x] I1.kIn hl
  rw [List.append_nil] at hbb
  refine PySem.W.get_bind I.kIn J (PySem.W.plainGet_of (cl.get nm)).1 (PySem.W.findObj_data hc hp.at_ hp.get hp.tak) (PySem.W.plainGet_of (cl.get nm)).2 (wpAny_call (PySem.W.prop_get (s := { s with toks := s.toks + 1 }) I.kIn hrec ?_))
  refine codeAny_mono (FE.run X.A.in1 X.stack { s with toks := s.toks + 1 } H ⟨[.ref x], []⟩ [.ref x] [.ref x] _ [] Q _ hr.in1 g.hg (inv_env0 g.hK I1).in1 hbb (.cons rfl .nil) sl (by simp) rl.tabs hq) fun r s' hq' => ?_
  cases r with
  | error er =>
    obtain ⟨_, _, _, _, _, _, _, _, _, _, _, _, z⟩ := hq'
    exact z.elim
  | ok fl =>
    cases fl with
    | ret u =>
      obtain ⟨v, H', I3, rv, q3⟩ := I1.after hq'
      show wpAny _ _ (handedOut u) _ _ _
      rw [PySem.W.handedOut_of (handed_of rv)]
      exact wpAny_pure ⟨v, H', I3, rv, q3⟩
    | next => exact False.elim hq'
    | brk => exact False.elim hq'
    | cont => exact False.elim hq'
structure PropAt (W : Wd) (X : Cx) (S : Stat) (F : Nat → Env → OutF) (nm : Nat → Str) : Prop where
  at_ : ∀ c n f, S.prop c n = some f → ∃ pa ga, PropOf X.K (W.cA c) (nm n) pa ga ∧ Cls X.K (W.cA c) ∧ FnAt W X F f ga
/-- e.f -/
theorem sb_fld {S : Stat} {F : Nat → Env → OutF} {nm : Nat → Str} {n : Nat} (g : GX W Wx X) (ok : WOk W S) (fo : FldOk W S nm) (pa : PropAt W X S F nm) (ha : PE X a (tBo W Wx ea)) (hb : attributeBase a (nm n) X.env (eval a X.env) = eval a X.env) :
    PE X (.Attribute a (nm n) pos) (tE W Wx fun ρ => (ea ρ).bind fun x ρ => fldT S F x n ρ) := by
  refine ⟨fun pins s σ H Q I ⟨C, ρ, rel, q⟩ => ?_⟩
  have go : wB W C Wx (ea ρ) σ H (fun v H1 => ∃ t ρ1, Rel W C ρ1 σ H1 ∧ (∃ fp, Own W H1 t v fp) ∧ wE W C Wx (fldT S F t n ρ1) σ H1 Q) :=
    wB_bind wE_x wE_b wE_m q fun t ρ1 v H1 e1 r1 p1 q1 => ⟨t, ρ1, r1, p1, q1⟩
  refine attr_of hb (thn (ha.run pins s σ H _ I ⟨C, ρ, rel, go⟩) fun u s1 ⟨v, H1, I1, rv, t, ρ1, r1, ⟨fp, ow⟩, q1⟩ => ?_)
  have fin : ∀ {d : D} {y : V} {u' : Value} {s2 : Shared}, Rep W H1 d y → wE W C Wx (.ok (.fr d) ρ1) σ H1 Q → Inv X pins σ H1 s2 → RelV y u' → EP X pins σ Q u' s2 := fun {d y u' s2} rp qq I2 ru => ⟨y, H1, I2, ru, qq y H1 (Ext.refl _) (r1.relT rp)⟩
  have insk : ∀ {c k : Nat} {dx x : Addr} {vs : List V} {d : D} {y : V}, S.fld c n = some k → ObjOk X.prog X.w H1 s1.heap x (.ins (W.cA c) dx ((W.fl c).zip vs)) → vs[k]? = some y → Rep W H1 d y → wE W C Wx (.ok (.fr d) ρ1) σ H1 Q → wpAny (model X.prog X.w) X.A (getAttr (.ref x) (nm n) true) (EP X pins σ Q) X.xe s1 := fun {c k dx x vs d y} hf ob hv rp qq => by
    obtain ⟨cl, na, hk⟩ := fo.fld c n k hf
    exact ins_fld I1 ob (g.hK ▸ cl) (g.hK ▸ na) (zip_look (fo.nd c) hk hv) fun u' s2 I2 ru => fin rp qq I2 ru
  cases ow with
  | fr rp =>
    cases rp with
    | ins h rs l =>
      rename_i c ds x dx vs
      obtain ⟨o, h'⟩ := h
      cases (show u = Value.ref x from rv)
      have ob := (I1.hok x _ h').2
      simp only [fldT] at q1
      cases hf : S.fld c n with
      | some k =>
        rw [hf] at q1
        simp only at q1
        cases hd : ds[k]? with
        | none => rw [hd] at q1; exact q1.elim
        | some d =>
          rw [hd] at q1
          obtain ⟨y, hv, rp⟩ := rs.get hd
          exact insk hf ob hv rp q1
      | none =>
        rw [hf] at q1
        simp only [propT] at q1
        cases hp : S.prop c n with
        | none => rw [hp] at q1; exact q1.elim
        | some f =>
          rw [hp] at q1
          simp only at q1
          cases ef : F f [.val (.ins c ds)] with
          | bad => rw [ef] at q1; exact q1.elim
          | exc d fin => rw [ef] at q1; exact q1.elim
          | ret t fin =>
            rw [ef] at q1
            obtain ⟨pa', ga, h1, h2, h3⟩ := pa.at_ c n f hp
            exact run_prop g h3 I1 r1 ob (.ins ⟨o, h'⟩ rs l) h2 h1 ef q1
    | exc h rp =>
      rename_i c d x y
      cases (show u = Value.ref x from rv)
      simp only [fldT] at q1
      split at q1
      · rename_i hc
        simp only [Bool.and_eq_true, decide_eq_true_eq] at hc
        obtain ⟨⟨hn, hx⟩, hcc⟩ := hc
        subst hn
        rw [fo.val]
        obtain ⟨z1, z2⟩ := fo.exv c hx hcc
        exact exc_fld I1 h (g.hK ▸ ok.clsE c hcc hx) (g.hK ▸ z2) (g.hK ▸ z1) fun u' s2 I2 ru => fin rp q1 I2 ru
      · exact q1.elim
    | _ => exact q1.elim
  | ins h rs l =>
    rename_i c ts x dx vs fp
    cases (show u = Value.ref x from rv)
    simp only [fldT] at q1
    cases hf : S.fld c n with
    | none => rw [hf] at q1; exact q1.elim
    | some k =>
      rw [hf] at q1
      simp only at q1
      split at q1
      · rename_i d hd
        obtain ⟨y, hv, rp⟩ := reps_own rs hd
        exact insk hf (I1.hok x _ h) hv rp q1
      · exact q1.elim
  | lst _ _ => exact q1.elim
  | dic _ _ _ => exact q1.elim
end
end Eg
set_option Elab.async false
set_option linter.all false
set_option maxRecDepth 100000
set_option maxHeartbeats 4000000
/-! the engine: what is walked; targets; list comprehensions -/
namespace Eg
open PySem PySem.Spec PyProof.Rows L2

section
variable {W : Wd} {Wx : WX} {X : Cx} {pos p p2 tpos : Pos}
/-- an iterator that yields these data, whatever comes -/
structure Walk (W : Wd) (K : PySem.W.Frag) (H1 : Hp) (J : L2.It) (xs : List D) : Prop where
  go : ∀ i H, Ext H1 H → i < xs.length → J.go i H
  stop : ∀ H, Ext H1 H → J.stop xs.length H
  yld : ∀ i H v H' d, Ext H1 H → xs[i]? = some d → J.yld i H v H' → ResT W H (.fr d) v H'
def wI (W : Wd) (C : Fx) (Wx : WX) (K : PySem.W.Frag) (o : Out (List D)) (σ : L2.St) (H : Hp) (R : L2.It → Hp → Prop) : Prop := match o with
  | .ok xs ρ => ∀ J H', Ext H H' → Rel W C ρ σ H' → Walk W K H' J xs → R J H'
  | .exc d ρ => xWay W C Wx d ρ σ H
  | .bad => False
def tIt (W : Wd) (Wx : WX) (K : PySem.W.Frag) (ev : Env → Out (List D)) : TI := fun σ H R => ∃ C ρ, Rel W C ρ σ H ∧ wI W C Wx K (ev ρ) σ H R
theorem wI.mono {C : Fx} {K : PySem.W.Frag} {σ : L2.St} {H H1 : Hp} {o : Out (List D)} {R : L2.It → Hp → Prop} (e : Ext H H1) (h : wI W C Wx K o σ H R) : wI W C Wx K o σ H1 R := by
  cases o with
  | ok t ρ => exact fun J H' e' => h J H' (e.trans e')
  | exc d ρ => exact xWay.mono e h
  | bad => exact h
theorem _root_.L2.PI.mono {tg iter : Expr} {t t' : TI} (h : PI X tg iter t) (k : ∀ σ H R, t' σ H R → t σ H R) : PI X tg iter t' := ⟨fun pins s σ H R I q => h.run pins s σ H R I (k σ H R q)⟩
theorem walk_lst {K : PySem.W.Frag} {H1 : Hp} {a : Addr} {vs : List V} {xs : List D} (h : SqF K H1 a vs) (r : Reps W H1 xs vs) : Walk W K H1 (Itl K a) xs where
  go := fun i H e hi => by
    have hv : i < vs.length := by rw [← r.length]; exact hi
    exact ⟨vs, vs[i], (SqF.ext e h).sql, by simp [hv]⟩
  stop := fun H e => ⟨vs, (SqF.ext e h).sql, by rw [r.length]; exact Nat.le_refl _⟩
  yld := fun i H v H' d e hd y => by
    obtain ⟨rfl, y⟩ := y
    obtain ⟨w, h1, h2⟩ := (r.ext e).get hd
    have := y vs (SqF.ext e h).sql
    rw [h1] at this; cases this
    exact .inl ⟨rfl, d, rfl, h2⟩
theorem walk_tup {K : PySem.W.Frag} {H1 : Hp} {a : Addr} {vs : List V} {xs : List D} (h : SqT K H1 a vs) (r : Reps W H1 xs vs) : Walk W K H1 (Itt K a) xs where
  go := fun i H e hi => by
    have hv : i < vs.length := by rw [← r.length]; exact hi
    exact ⟨vs, vs[i], SqT.ext e h, by simp [hv]⟩
  stop := fun H e => ⟨vs, SqT.ext e h, by rw [r.length]; exact Nat.le_refl _⟩
  yld := fun i H v H' d e hd y => by
    obtain ⟨rfl, y⟩ := y
    obtain ⟨w, h1, h2⟩ := (r.ext e).get hd
    have := y vs (SqT.ext e h)
    rw [h1] at this; cases this
    exact .inl ⟨rfl, d, rfl, h2⟩
theorem walk_rng {K : PySem.W.Frag} {H1 : Hp} {lo hi : Int} : Walk W K H1 (Itr lo (hi - lo).toNat) (rangeD lo hi) where
  go := fun i H e h => by
    have h' : i < (hi - lo).toNat := by simpa only [rangeD, List.length_map, List.length_range] using h
    exact h'
  stop := fun H e => by
    show (hi - lo).toNat ≤ _
    simp only [rangeD, List.length_map, List.length_range]
    exact Nat.le_refl _
  yld := fun i H v H' d e hd y => by
    obtain ⟨rfl, rfl⟩ := y
    have hd' : D.int (lo + (i : Int)) = d := by
      simp only [rangeD, List.getElem?_map] at hd
      obtain ⟨j, h1, h2⟩ := Option.map_eq_some_iff.mp hd
      have := List.getElem?_eq_some_iff.mp h1
      obtain ⟨h3, h4⟩ := this
      rw [List.getElem_range] at h4
      rw [h4, h2]
    subst hd'
    exact .inl ⟨rfl, _, rfl, .int _⟩
theorem walk_str {K : PySem.W.Frag} {H1 : Hp} {x : Str} : Walk W K H1 (Its x) (strD x) where
  go := fun i H e h => by simpa [strD, Its] using h
  stop := fun H e => by simp [strD, Its]
  yld := fun i H v H' d e hd y => by
    obtain ⟨rfl, c, hc, rfl⟩ := y
    have : D.str ⟨#[c]⟩ = d := by
      simp only [strD, List.getElem?_map] at hd
      obtain ⟨j, h1, h2⟩ := Option.map_eq_some_iff.mp hd
      have h3 : x.cps.toList[i]? = some c := by simpa using hc
      rw [h3] at h1; cases h1; exact h2
    subst this
    exact .inl ⟨rfl, _, rfl, .str _⟩
theorem enumD_at {xs : List D} {i : Nat} {d : D} (h : (enumD xs)[i]? = some d) : ∃ x, xs[i]? = some x ∧ d = .tup [.int (i : Nat), x] := by
  unfold enumD at h
  rw [List.getElem?_map] at h
  obtain ⟨q, h1, h2⟩ := Option.map_eq_some_iff.mp h
  rw [List.getElem?_zipIdx] at h1
  obtain ⟨x, h3, h4⟩ := Option.map_eq_some_iff.mp h1
  subst h4
  exact ⟨x, h3, by rw [← h2]; simp⟩
theorem walk_enum {K : PySem.W.Frag} {H1 : Hp} {a : Addr} {vs : List V} {xs : List D} (h : SqF K H1 a vs) (r : Reps W H1 xs vs) : Walk W K H1 (Ite K a) (enumD xs) where
  go := fun i H e hi => by
    have hi' : i < xs.length := by simpa [enumD] using hi
    have hv : i < vs.length := by rw [← r.length]; exact hi'
    exact ⟨vs, vs[i], (SqF.ext e h).sql, by simp [hv]⟩
  stop := fun H e => ⟨vs, (SqF.ext e h).sql, by simp [enumD, r.length]⟩
  yld := fun i H v H' d e hd y => by
    obtain ⟨T, x, rfl, hT, rfl, y⟩ := y
    obtain ⟨z, h1, rfl⟩ := enumD_at hd
    obtain ⟨w, h2, h3⟩ := (r.ext e).get h1
    have := y vs (SqF.ext e h).sql
    rw [h2] at this; cases this
    exact ResT.newTup hT (.cons (.int _) (.cons h3 .nil))
theorem walk_zip {K : PySem.W.Frag} {H1 : Hp} {a b : Addr} {vs ws : List V} {xs ys : List D} (h : SqF K H1 a vs) (r : Reps W H1 xs vs) (h' : SqF K H1 b ws) (r' : Reps W H1 ys ws) : Walk W K H1 (Itz K a b) (List.zipWith (fun p q => .tup [p, q]) xs ys) where
  go := fun i H e hi => by
    rw [List.length_zipWith] at hi
    have hv : i < vs.length := by rw [← r.length]; omega
    have hw : i < ws.length := by rw [← r'.length]; omega
    exact ⟨vs, ws, vs[i], ws[i], (SqF.ext e h).sql, (SqF.ext e h').sql, by simp [hv], by simp [hw]⟩
  stop := fun H e => ⟨vs, ws, (SqF.ext e h).sql, (SqF.ext e h').sql, by rw [List.length_zipWith, ← r.length, ← r'.length]; omega⟩
  yld := fun i H v H' d e hd y => by
    obtain ⟨T, x, z, rfl, hT, rfl, y1, y2⟩ := y
    rw [List.getElem?_zipWith] at hd
    cases hx : xs[i]? with
    | none => rw [hx] at hd; simp at hd
    | some p =>
      cases hy : ys[i]? with
      | none => rw [hx, hy] at hd; simp at hd
      | some q =>
        rw [hx, hy] at hd
        simp at hd; subst hd
        obtain ⟨w, h2, h3⟩ := (r.ext e).get hx
        obtain ⟨w', h4, h5⟩ := (r'.ext e).get hy
        have e1 := y1 vs (SqF.ext e h).sql
        have e2 := y2 ws (SqF.ext e h').sql
        rw [h2] at e1; cases e1
        rw [h4] at e2; cases e2
        exact ResT.newTup hT (.cons h3 (.cons h5 .nil))
theorem Rep.lstF {H : Hp} {ds : List D} {v : V} (h : Rep W H (.lst ds) v) : ∃ a vs, v = .ref a ∧ SqF W.K H a vs ∧ Reps W H ds vs := by
  cases h with
  | lst h r => exact ⟨_, _, rfl, h, r⟩

/-! ### the sources -/
variable {tg a b : Expr} {ea eb : Env → Out D}
def wI_x {K : PySem.W.Frag} {C : Fx} {σ : L2.St} {R : L2.It → Hp → Prop} : ∀ d ρ H, wI W C Wx K (.exc d ρ) σ H R → xWay W C Wx d ρ σ H := fun _ _ _ h => h
def wI_b {K : PySem.W.Frag} {C : Fx} {σ : L2.St} {R : L2.It → Hp → Prop} : ∀ H, ¬ wI W C Wx K .bad σ H R := fun _ h => h
def wI_m {K : PySem.W.Frag} {C : Fx} {σ : L2.St} {R : L2.It → Hp → Prop} : ∀ o H H1, Ext H H1 → wI W C Wx K o σ H R → wI W C Wx K o σ H1 R := fun _ _ _ e h => wI.mono e h
/-- any value that is walked -/
theorem si_seq (g : GX W Wx X) (ha : PE X a (tD W Wx ea)) : PI X tg a (tIt W Wx X.K fun ρ => (ea ρ).bind fun x ρ => Out.of ρ (seqD x)) := by
  refine ⟨fun pins s σ H R I ⟨C, ρ, rel, q⟩ => ?_⟩
  cases eo : ea ρ with
  | bad => simp only [eo, Out.bind] at q; exact q.elim
  | exc d ρ1 =>
    simp only [eo, Out.bind] at q
    exact (pi_list ha).run pins s σ H R I ⟨C, ρ, rel, by rw [eo]; exact q⟩
  | ok x ρ1 =>
    simp only [eo, Out.bind] at q
    cases x with
    | lst xs =>
      refine (pi_list ha).run pins s σ H R I ⟨C, ρ, rel, ?_⟩
      rw [eo]
      intro v H1 e1 r1 p1
      obtain ⟨a', vs, rfl, h, r⟩ := p1.lstF
      exact ⟨a', rfl, ⟨vs, g.hK ▸ h.sql⟩, q _ _ e1 r1 (walk_lst (g.hK ▸ h) r)⟩
    | tup xs =>
      refine (pi_tup ha).run pins s σ H R I ⟨C, ρ, rel, ?_⟩
      rw [eo]
      intro v H1 e1 r1 p1
      obtain ⟨a', vs, rfl, h, r⟩ := (WRep.rep p1).tupI
      exact ⟨a', rfl, ⟨vs, g.hK ▸ h⟩, q _ _ e1 r1 (walk_tup (g.hK ▸ h) r)⟩
    | str z =>
      refine (pi_str ha).run pins s σ H R I ⟨C, ρ, rel, ?_⟩
      rw [eo]
      intro v H1 e1 r1 p1
      cases p1
      exact ⟨z, rfl, q _ _ e1 r1 walk_str⟩
    | _ => exact q.elim
theorem si_rng1 (hg : Gl X "range") (hm : X.mg "range" = none) (hs : isStar a = false) (ha : PE X a (tD W Wx ea)) :
    PI X tg (.Call (.Name "range" p) [a] [] pos) (tIt W Wx X.K fun ρ => bindI (ea ρ) fun n ρ => if okRange n then .ok (rangeD 0 n) ρ else .bad) := by
  refine (pi_range1 hg hm (pa_cons ha pa_nil (plain_star (isStar_ne hs))) (plain_star (isStar_ne hs))).mono fun σ H R ⟨C, ρ, rel, q⟩ => ⟨C, ρ, rel, ?_⟩
  unfold bindI at q
  refine wD_bind (P := fun o H => wI W C Wx X.K o σ H R) (fun _ _ _ h => h) (fun _ h => h) (fun _ _ _ e h => wI.mono e h) q fun x ρ1 v H1 e1 r1 p1 q1 => ?_
  cases x <;> simp only at q1 <;> try exact q1.elim
  rename_i n
  cases p1
  cases hr : okRange n with
  | false => rw [hr] at q1; exact q1.elim
  | true =>
    rw [hr] at q1
    obtain ⟨h1, h2⟩ := okRange_of hr
    refine ⟨n, rfl, h1, h2, q1 _ _ (Ext.refl _) r1 ?_⟩
    have := walk_rng (W := W) (K := X.K) (H1 := H1) (lo := 0) (hi := n)
    simpa using this
theorem si_rng2 (hg : Gl X "range") (hm : X.mg "range" = none) (hs : isStar a = false) (hs2 : isStar b = false) (ha : PE X a (tD W Wx ea)) (hb : PE X b (tD W Wx eb)) :
    PI X tg (.Call (.Name "range" p) [a, b] [] pos) (tIt W Wx X.K fun ρ => bindI (ea ρ) fun m ρ => bindI (eb ρ) fun n ρ => if okRange m && okRange n then .ok (rangeD m n) ρ else .bad) := by
  refine (pi_range2 hg hm (pa_cons ha (pa_cons hb pa_nil (plain_star (isStar_ne hs2))) (plain_star (isStar_ne hs))) ?_ (plain_star (isStar_ne hs2))).mono fun σ H R ⟨C, ρ, rel, q⟩ => ⟨C, ρ, rel, ?_⟩
  · rw [plain_star (isStar_ne hs), plain_star (isStar_ne hs2)]; rfl
  unfold bindI at q
  refine wD_bind (P := fun o H => wI W C Wx X.K o σ H R) (fun _ _ _ h => h) (fun _ h => h) (fun _ _ _ e h => wI.mono e h) q fun x ρ1 v H1 e1 r1 p1 q1 => ⟨C, ρ1, r1, ?_⟩
  cases x <;> simp only at q1 <;> try exact q1.elim
  rename_i m
  cases p1
  refine wD_bind (P := fun o H => wI W C Wx X.K o σ H R) (fun _ _ _ h => h) (fun _ h => h) (fun _ _ _ e h => wI.mono e h) q1 fun y ρ2 v2 H2 e2 r2 p2 q2 => ?_
  cases y <;> simp only at q2 <;> try exact q2.elim
  rename_i n
  cases p2
  cases hr : (okRange m && okRange n) with
  | false => rw [hr] at q2; exact q2.elim
  | true =>
    rw [hr] at q2
    rw [Bool.and_eq_true] at hr
    obtain ⟨h1, h2⟩ := okRange_of hr.1
    obtain ⟨h3, h4⟩ := okRange_of hr.2
    exact ⟨m, n, rfl, ⟨h1, h2, h3, h4⟩, q2 _ _ (Ext.refl _) r2 walk_rng⟩
theorem si_enum {elts : List Expr} {kk : Nat} (g : GX W Wx X) (hg : Gl X "enumerate") (hm : X.mg "enumerate" = none) (hs : isStar a = false) (ha : PE X a (tD W Wx ea)) :
    PI X (.Tuple elts kk tpos) (.Call (.Name "enumerate" p) [a] [] pos) (tIt W Wx X.K fun ρ => (ea ρ).bind fun x ρ => Out.of ρ ((lstD x).map enumD)) := by
  refine (pi_enum hg hm (pa_cons ha pa_nil (plain_star (isStar_ne hs))) (plain_star (isStar_ne hs))).mono fun σ H R ⟨C, ρ, rel, q⟩ => ⟨C, ρ, rel, ?_⟩
  refine wD_bind (P := fun o H => wI W C Wx X.K o σ H R) (fun _ _ _ h => h) (fun _ h => h) (fun _ _ _ e h => wI.mono e h) q fun x ρ1 v H1 e1 r1 p1 q1 => ?_
  cases x <;> simp only [lstD, Option.map_none] at q1 <;> try exact q1.elim
  obtain ⟨a', vs, rfl, h, r⟩ := p1.lstF
  exact ⟨a', vs, rfl, g.hK ▸ h.sql, q1 _ _ (Ext.refl _) r1 (walk_enum (g.hK ▸ h) r)⟩
theorem si_zip {elts : List Expr} {kk : Nat} (g : GX W Wx X) (hg : Gl X "zip") (hm : X.mg "zip" = none) (hs : isStar a = false) (hs2 : isStar b = false) (ha : PE X a (tD W Wx ea)) (hb : PE X b (tD W Wx eb)) :
    PI X (.Tuple elts kk tpos) (.Call (.Name "zip" p) [a, b] [] pos) (tIt W Wx X.K fun ρ => (ea ρ).bind fun x ρ => (eb ρ).bind fun y ρ => match lstD x, lstD y with
    | some xs, some ys => .ok (List.zipWith (fun p q => .tup [p, q]) xs ys) ρ
    | _, _ => .bad) := by
  refine (pi_zip hg hm (pa_cons ha (pa_cons hb pa_nil (plain_star (isStar_ne hs2))) (plain_star (isStar_ne hs))) (plain_star (isStar_ne hs)) (nostar_any (by simp [hs2]))).mono fun σ H R ⟨C, ρ, rel, q⟩ => ⟨C, ρ, rel, ?_⟩
  refine wD_bind (P := fun o H => wI W C Wx X.K o σ H R) (fun _ _ _ h => h) (fun _ h => h) (fun _ _ _ e h => wI.mono e h) q fun x ρ1 v H1 e1 r1 p1 q1 => ⟨C, ρ1, r1, ?_⟩
  refine wD_bind (P := fun o H => wI W C Wx X.K o σ H R) (fun _ _ _ h => h) (fun _ h => h) (fun _ _ _ e h => wI.mono e h) q1 fun y ρ2 v2 H2 e2 r2 p2 q2 => ?_
  cases x <;> simp only [lstD] at q2 <;> try exact q2.elim
  cases y <;> simp only at q2 <;> try exact q2.elim
  obtain ⟨a', vs, rfl, h, r⟩ := p1.lstF
  obtain ⟨b', ws, rfl, h', r'⟩ := p2.lstF
  have hh := SqF.ext e2 h
  exact ⟨a', b', vs, ws, rfl, g.hK ▸ hh.sql, g.hK ▸ h'.sql, q2 _ _ (Ext.refl _) r2 (walk_zip (g.hK ▸ hh) (r.ext e2) (g.hK ▸ h') r')⟩

/-! ### targets -/
theorem SlRs.setv {H : Hp} {o : Option V} {s : Sl} : ∀ {ρ : Env} {σ : L2.St} {fp : List Addr} {i : Nat}, SlRs W H ρ σ fp → SlR W H s o [] → ∃ fp', SlRs W H (ρ.set i s) (σ.set i o) fp' ∧ fp'.Sublist fp
  | _, _, _, _, .nil, _ => ⟨[], .nil, List.Sublist.refl _⟩
  | _, _, _, 0, .cons (fp := fp) (fps := fps) h r, q => ⟨[] ++ fps, .cons q r, by simp⟩
  | _, _, _, i + 1, .cons (fp := fp) (fps := fps) h r, q => by
    obtain ⟨fp', h1, h2⟩ := SlRs.setv (i := i) r q
    exact ⟨fp ++ fp', .cons h h1, List.Sublist.append (List.Sublist.refl _) h2⟩
/-- a slot is written -/
theorem RelP.setv {C : Fx} {ρ : Env} {σ : L2.St} {H : Hp} {fp ex : List Addr} {i : Nat} {s : Sl} {o : Option V} (h : RelP W C ρ σ H fp ex) (q : SlR W H s o []) (nf : ∀ p ∈ C.fix, p.1 ≠ i) : ∃ fp', RelP W C (ρ.set i s) (σ.set i o) H fp' ex := by
  obtain ⟨fp', h1, h2⟩ := h.slots.setv (i := i) q
  obtain ⟨n1, n2, n3⟩ := List.nodup_append.mp h.nd
  refine ⟨fp', h1, List.nodup_append.mpr ⟨n1.sublist h2, n2, fun a m b m' => n3 a (h2.subset m) b m'⟩, fun a m => ?_, h.frame, h.dom, fun p hp => ?_, h.tabs⟩
  · rcases List.mem_append.mp m with m | m
    · exact h.own a (by simp [h2.subset m])
    · exact h.own a (by simp [m])
  · rw [List.getElem?_set_ne (Ne.symm (nf p hp))]; exact h.fix p hp
def FixIn (C : Fx) (io : List Nat) : Prop := ∀ p ∈ C.fix, p.1 ∈ io
theorem free_nm {C : Fx} {io : List Nat} {i : Nat} (hf : FixIn C io) (h : Tg.free io (.nm i) = true) : ∀ p ∈ C.fix, p.1 ≠ i := fun p hp z => by
  have := hf p hp
  rw [z] at this
  simp only [Tg.free, Bool.not_eq_true'] at h
  rw [List.contains_iff_mem.mpr this] at h; cases h
end
end Eg
set_option Elab.async false
set_option linter.all false
set_option maxRecDepth 100000
set_option maxHeartbeats 4000000
/-! the engine: stores into targets; list comprehensions -/
namespace Eg
open PySem PySem.Spec PyProof.Rows L2

/-- what the compiler knows of names: their places, how they stand, which may be stored -/
structure Ct where
  N : List Str
  vs : List (Str × NameKind)
  st : List (Str × NameKind)
def ixOf (x : Str) : List Str → Option Nat
  | [] => none
  | y :: ys => if y = x then some 0 else (ixOf x ys).map (· + 1)
theorem ixOf_get {x : Str} : ∀ {N : List Str} {i : Nat}, ixOf x N = some i → N[i]? = some x
  | [], _, h => by cases h
  | y :: ys, i, h => by
    unfold ixOf at h
    split at h
    · rename_i e; cases h; simp [e]
    · obtain ⟨j, h1, rfl⟩ := Option.map_eq_some_iff.mp h
      simpa using ixOf_get h1
def isLoc (l : List (Str × NameKind)) (x : Str) : Bool := match l.lookup x with
  | some .local => true
  | some .cell => true
  | _ => false
def isVis (l : List (Str × NameKind)) (x : Str) : Bool := match l.lookup x with
  | some .local => true
  | some .cell => true
  | some .free => true
  | _ => false
theorem isVis_ok {sc : Scope} {x : Str} (h : isVis sc.names x = true) : Vis sc x := by
  unfold isVis at h
  split at h
  · rename_i e; exact .inl e
  · rename_i e; exact .inr (.inl e)
  · rename_i e; exact .inr (.inr e)
  · cases h
mutual
def cTg (ct : Ct) : Nat → Expr → Option Tg
  | n + 1, .Name x _ => if isLoc ct.st x then (ixOf x ct.N).map .nm else none
  | n + 1, .Tuple es _ _ => (cTgs ct n es).map .tp
  | _, _ => none
def cTgs (ct : Ct) : Nat → List Expr → Option (List Tg)
  | _, [] => some []
  | n + 1, e :: es => (cTg ct n e).bind fun t => (cTgs ct n es).map fun ts => t :: ts
  | 0, _ :: _ => none
end

section
variable {W : Wd} {Wx : WX} {X : Cx} {pos p p2 tpos : Pos}
/-- the target's names alone may have changed -/
def Same (ks : List Nat) (σ σ' : L2.St) : Prop := σ'.length = σ.length ∧ ∀ i, i ∉ ks → σ'[i]? = σ[i]?
mutual
def Tg.nms : Tg → List Nat
  | .nm i => [i]
  | .tp ts => Tg.nmss ts
def Tg.nmss : List Tg → List Nat
  | [] => []
  | t :: ts => Tg.nms t ++ Tg.nmss ts
end
def tG (W : Wd) (io : List Nat) (tg : Tg) : TG := fun v σ H Q => ∃ C ρ d ρ' fp ex, FixIn C io ∧ tg.free io = true ∧ RelP W C ρ σ H fp ex ∧ Rep W H d v ∧ asgTg tg d ρ = some ρ' ∧ ∀ σ' fp', RelP W C ρ' σ' H fp' ex → Same tg.nms σ σ' → Q σ' H
def tGs (W : Wd) (io : List Nat) (tgs : List Tg) : TGs := fun vs σ H Q => ∃ C ρ ds ρ' fp ex, FixIn C io ∧ Tg.frees io tgs = true ∧ RelP W C ρ σ H fp ex ∧ Reps W H ds vs ∧ asgTgs tgs ds ρ = some ρ' ∧ ∀ σ' fp', RelP W C ρ' σ' H fp' ex → Same (Tg.nmss tgs) σ σ' → Q σ' H
theorem _root_.L2.PG.mono {tg : Expr} {t t' : TG} (h : PG X tg t) (k : ∀ v σ H Q, t' v σ H Q → t v σ H Q) : PG X tg t' := ⟨fun pins s σ H v u Q I r q => h.run pins s σ H v u Q I r (k v σ H Q q)⟩
theorem _root_.L2.PGs.mono {tg : List Expr} {t t' : TGs} (h : PGs X tg t) (k : ∀ v σ H Q, t' v σ H Q → t v σ H Q) : PGs X tg t' := ⟨fun pins s σ H v u Q I r q => h.run pins s σ H v u Q I r (k v σ H Q q)⟩
theorem Same.set {σ : L2.St} {i : Nat} {o : Option V} : Same [i] σ (σ.set i o) := ⟨by simp, fun j hj => List.getElem?_set_ne fun z => hj (by simp [z])⟩
theorem Same.trans {ks js : List Nat} {σ σ' σ'' : L2.St} (a : Same ks σ σ') (b : Same js σ' σ'') : Same (ks ++ js) σ σ'' := ⟨b.1.trans a.1, fun i hi => by
  simp only [List.mem_append, not_or] at hi
  rw [b.2 i hi.2, a.2 i hi.1]⟩
/-- what compiled code leans on: the names, the scope -/
structure CtOk (ct : Ct) (X : Cx) : Prop where
  N : X.N = ct.N
  vs : X.env.scope.names = ct.vs
  kd : X.env.scope.kind = .function
  st : ∀ x, isLoc ct.st x = true → Loc X.env.scope x ∧ (X.fn x = true ∨ X.env.scope.names.lookup x = some .local)
theorem assignEach_one : ∀ {es : List Expr} {env : PySem.Env}, (∀ e ∈ es, ∀ a q, e ≠ .Starred a q) → (assignEach es env).findIdx? (·.1) = none ∧ (assignEach es env).length = es.length
  | [], _, _ => ⟨rfl, rfl⟩
  | e :: es, env, h => by
    obtain ⟨h1, h2⟩ := assignEach_one (es := es) (env := env) fun e' m => h e' (by simp [m])
    have hne := h e (by simp)
    have : assignEach (e :: es) env = (false, assign e env) :: assignEach es env := by
      cases e <;> first | rfl | exact absurd rfl (hne _ _)
    rw [this]
    exact ⟨by simp [List.findIdx?_cons, h1], by simp [h2]⟩
theorem assignEach_cons {e : Expr} {es : List Expr} {env : PySem.Env} (h : ∀ a q, e ≠ .Starred a q) : (assignEach (e :: es) env).map (·.2) = assign e env :: (assignEach es env).map (·.2) := by
  cases e <;> first | rfl | exact absurd rfl (h _ _)
theorem cTg_nostar {ct : Ct} {n : Nat} {e : Expr} {t : Tg} (h : cTg ct n e = some t) : ∀ a q, e ≠ .Starred a q := fun a q z => by
  subst z
  cases n <;> simp [cTg] at h
theorem cTgs_len {ct : Ct} : ∀ {n : Nat} {es : List Expr} {ts : List Tg}, cTgs ct n es = some ts → ts.length = es.length ∧ ∀ e ∈ es, ∀ a q, e ≠ .Starred a q
  | n, [], ts, h => by
    have : ts = [] := by cases n <;> simp [cTgs] at h <;> exact h
    subst this; exact ⟨rfl, fun _ m => by cases m⟩
  | 0, e :: es, ts, h => by simp [cTgs] at h
  | n + 1, e :: es, ts, h => by
    simp only [cTgs] at h
    obtain ⟨t, h1, h2⟩ := Option.bind_eq_some_iff.mp h
    obtain ⟨ts', h3, rfl⟩ := Option.map_eq_some_iff.mp h2
    obtain ⟨l, k⟩ := cTgs_len h3
    exact ⟨by simp [l], fun e' m => (List.mem_cons.mp m).elim (fun z => z ▸ cTg_nostar h1) (k e')⟩
theorem asgTgs_len : ∀ {ts : List Tg} {ds : List D} {ρ ρ' : Env}, asgTgs ts ds ρ = some ρ' → ts.length = ds.length
  | [], [], _, _, _ => rfl
  | [], _ :: _, _, _, h => by simp [asgTgs] at h
  | _ :: _, [], _, _, h => by simp [asgTgs] at h
  | t :: ts, d :: ds, ρ, ρ', h => by
    simp only [asgTgs] at h
    obtain ⟨ρ1, _, h2⟩ := Option.bind_eq_some_iff.mp h
    simp [asgTgs_len h2]
mutual
theorem pg_tg {ct : Ct} {io : List Nat} (g : GX W Wx X) (ok : CtOk ct X) : ∀ {n : Nat} {e : Expr} {t : Tg}, cTg ct n e = some t → PG X e (tG W io t)
  | 0, e, t, h => by cases e <;> simp [cTg] at h
  | n + 1, .Name x q, t, h => by
    simp only [cTg] at h
    split at h
    · rename_i hl
      obtain ⟨i, h1, rfl⟩ := Option.map_eq_some_iff.mp h
      obtain ⟨hx, hf⟩ := ok.st x hl
      refine (pg_name g.nd (by rw [ok.N]; exact ixOf_get h1) hx hf).mono fun v σ H Q ⟨C, ρ, d, ρ', fp, ex, hf, fr, r, rp, ha, q⟩ => ?_
      simp only [asgTg] at ha
      split at ha
      · cases ha
        obtain ⟨fp', r'⟩ := r.setv (i := i) (.val rp) (free_nm hf fr)
        exact q _ fp' r' Same.set
      · cases ha
    · cases h
  | n + 1, .Tuple es k q, t, h => by
    simp only [cTg] at h
    obtain ⟨ts, h1, rfl⟩ := Option.map_eq_some_iff.mp h
    obtain ⟨l, ns⟩ := cTgs_len h1
    obtain ⟨a1, a2⟩ := assignEach_one (env := X.env) ns
    refine (pg_tup (n := es.length) g.calm (pgs_tg (io := io) g ok h1) a2 a1).mono fun v σ H Q ⟨C, ρ, d, ρ', fp, ex, hf, fr, r, rp, ha, q⟩ => ?_
    simp only [asgTg] at ha
    split at ha
    · rename_i ds
      obtain ⟨a, vs, rfl, hq, rr⟩ := (WRep.rep rp).tupI
      exact ⟨a, vs, rfl, g.hK ▸ hq, by rw [← rr.length, ← asgTgs_len ha, l], C, ρ, ds, ρ', fp, ex, hf, fr, r, rr, ha, q⟩
    · cases ha
  | n + 1, .Constant _ _ _, _, h => by simp [cTg] at h
  | n + 1, .BoolOp _ _ _, _, h => by simp [cTg] at h
  | n + 1, .NamedExpr _ _ _, _, h => by simp [cTg] at h
  | n + 1, .BinOp _ _ _ _, _, h => by simp [cTg] at h
  | n + 1, .UnaryOp _ _ _, _, h => by simp [cTg] at h
  | n + 1, .Lambda _ _ _ _, _, h => by simp [cTg] at h
  | n + 1, .IfExp _ _ _ _, _, h => by simp [cTg] at h
  | n + 1, .Dict _ _ _, _, h => by simp [cTg] at h
  | n + 1, .Set _ _ _, _, h => by simp [cTg] at h
  | n + 1, .List _ _, _, h => by simp [cTg] at h
theorem pgs_tg {ct : Ct} {io : List Nat} (g : GX W Wx X) (ok : CtOk ct X) : ∀ {n : Nat} {es : List Expr} {ts : List Tg}, cTgs ct n es = some ts → PGs X es (tGs W io ts)
  | n, [], ts, h => by
    have : ts = [] := by cases n <;> simp [cTgs] at h <;> exact h
    subst this
    refine pgs_nil.mono fun vs σ H Q ⟨C, ρ, ds, ρ', fp, ex, hf, fr, r, rp, ha, q⟩ => ?_
    cases rp with
    | nil => simp [asgTgs] at ha; subst ha; exact ⟨rfl, q σ fp r ⟨rfl, fun _ _ => rfl⟩⟩
    | cons _ _ => simp [asgTgs] at ha
  | 0, e :: es, ts, h => by simp [cTgs] at h
  | n + 1, e :: es, ts, h => by
    simp only [cTgs] at h
    obtain ⟨t, h1, h2⟩ := Option.bind_eq_some_iff.mp h
    obtain ⟨ts', h3, rfl⟩ := Option.map_eq_some_iff.mp h2
    refine (pgs_cons (pg_tg (io := io) g ok h1) (pgs_tg (io := io) g ok h3) (assignEach_cons (cTg_nostar h1))).mono fun vs σ H Q ⟨C, ρ, ds, ρ', fp, ex, hf, fr, r, rp, ha, q⟩ => ?_
    cases rp with
    | nil => simp [asgTgs] at ha
    | cons h rr =>
      simp only [asgTgs] at ha
      obtain ⟨ρ1, ha1, ha2⟩ := Option.bind_eq_some_iff.mp ha
      simp only [Tg.frees, Bool.and_eq_true] at fr
      refine ⟨_, _, rfl, C, ρ, _, ρ1, fp, ex, hf, fr.1, r, h, ha1, fun σ' fp' r' sm => ?_⟩
      exact ⟨C, ρ1, _, ρ', fp', ex, hf, fr.2, r', rr, ha2, fun σ'' fp'' r'' sm' => q σ'' fp'' r'' (by rw [Tg.nmss]; exact sm.trans sm')⟩
end
end
end Eg
set_option Elab.async false
set_option linter.all false
set_option maxRecDepth 100000
set_option maxHeartbeats 4000000
/-! the engine: list comprehensions -/
namespace Eg
open PySem PySem.Spec PyProof.Rows L2

section
variable {W : Wd} {Wx : WX} {X : Cx} {pos p p2 tpos : Pos}
def WF : WX := fun _ _ _ _ => False
theorem wipe_get {σ : L2.St} : ∀ {vs : List Nat} {i : Nat}, (wipe σ vs)[i]? = if i ∈ vs then (if i < σ.length then some none else none) else σ[i]?
  | [], i => by simp [wipe]
  | v :: vs, i => by
    unfold wipe
    by_cases hi : v = i
    · subst hi
      rw [List.getElem?_set_self', wipe_get]
      by_cases hl : v < σ.length
      · by_cases hm : v ∈ vs <;> simp [hm, hl]
      · by_cases hm : v ∈ vs <;> simp [hm, hl]
    · rw [List.getElem?_set_ne hi, wipe_get]
      have : i ∈ v :: vs ↔ i ∈ vs := by simp [Ne.symm hi]
      by_cases hm : i ∈ vs <;> simp [hm, Ne.symm hi]
mutual
theorem within_nms : ∀ (t : Tg) {ks : List Nat} {i : Nat}, t.within ks = true → i ∈ t.nms → i ∈ ks
  | .nm j, ks, i, h, m => by
    rw [Tg.within] at h; rw [Tg.nms] at m
    have : i = j := by simpa using m
    rw [this]; exact List.contains_iff_mem.mp h
  | .tp ts, ks, i, h, m => by
    rw [Tg.within] at h; rw [Tg.nms] at m
    exact withins_nms ts h m
theorem withins_nms : ∀ (ts : List Tg) {ks : List Nat} {i : Nat}, Tg.withins ks ts = true → i ∈ Tg.nmss ts → i ∈ ks
  | [], ks, i, h, m => by rw [Tg.nmss] at m; cases m
  | t :: ts, ks, i, h, m => by
    rw [Tg.withins, Bool.and_eq_true] at h; rw [Tg.nmss, List.mem_append] at m
    exact m.elim (within_nms t h.1) (withins_nms ts h.2)
end
mutual
theorem free_nil : ∀ t : Tg, t.free [] = true
  | .nm i => by simp [Tg.free]
  | .tp ts => by rw [Tg.free]; exact frees_nil ts
theorem frees_nil : ∀ ts : List Tg, Tg.frees [] ts = true
  | [] => by simp [Tg.frees]
  | t :: ts => by simp [Tg.frees, free_nil t, frees_nil ts]
end
theorem RelP.nofix {C : Fx} {ρ : Env} {σ : L2.St} {H : Hp} {fp ex : List Addr} (h : RelP W C ρ σ H fp ex) : RelP W ⟨C.G, C.In, []⟩ ρ σ H fp ex := ⟨h.slots, h.nd, h.own, h.frame, h.dom, fun _ m => (by cases m), h.tabs⟩
theorem RelP.wipe {C : Fx} {ρ : Env} {σ : L2.St} {H : Hp} {ex : List Addr} (hc : C.fix = []) : ∀ (vs : List Nat) {fp : List Addr}, RelP W C ρ σ H fp ex → ∃ fp', RelP W C (wipeE ρ vs) (L2.wipe σ vs) H fp' ex
  | [], fp, h => ⟨fp, h⟩
  | v :: vs, fp, h => by
    obtain ⟨fp', h'⟩ := RelP.wipe hc vs h
    exact h'.setv (i := v) .unb (by rw [hc]; intro p hp; cases hp)
/-- σ's own values at some places -/
def backS (σ0 σ : L2.St) : List Nat → L2.St
  | [] => σ
  | k :: ks => backS σ0 (σ.set k (σ0[k]?.getD none)) ks
theorem backS_get {σ0 : L2.St} : ∀ {ks : List Nat} {σ : L2.St} {i : Nat}, σ.length = σ0.length → (∀ j, j ∉ ks → σ[j]? = σ0[j]?) → (backS σ0 σ ks)[i]? = σ0[i]?
  | [], σ, i, _, h => by unfold backS; exact h i (by simp)
  | k :: ks, σ, i, l, h => by
    unfold backS
    refine backS_get (by simp [l]) fun j hj => ?_
    by_cases e : k = j
    · subst e
      rw [List.getElem?_set_self']
      by_cases hk : k < σ0.length
      · have h1 : σ[k]? = some (σ[k]'(by omega)) := List.getElem?_eq_getElem _
        have h2 : σ0[k]? = some σ0[k] := List.getElem?_eq_getElem _
        rw [h1, h2]; simp
      · rw [List.getElem?_eq_none (by omega : σ.length ≤ k), List.getElem?_eq_none (by omega : σ0.length ≤ k)]; rfl
    · rw [List.getElem?_set_ne e]
      exact h j (by simp [hj, Ne.symm e])
theorem RelP.restore {C : Fx} {ρ0 : Env} {σ0 : L2.St} {H H0 : Hp} {fp0 ex : List Addr} (r0 : SlRs W H0 ρ0 σ0 fp0) (e : Ext H0 H) (hc : C.fix = []) : ∀ {ks : List Nat} {ρ : Env} {σ : L2.St} {fp : List Addr}, noOwn ρ0 ks = true → RelP W C ρ σ H fp ex → ∃ fp', RelP W C (backE ρ0 ρ ks) (backS σ0 σ ks) H fp' ex
  | [], ρ, σ, fp, _, h => ⟨fp, h⟩
  | k :: ks, ρ, σ, fp, hn, h => by
    unfold noOwn at hn
    rw [List.all_cons, Bool.and_eq_true] at hn
    obtain ⟨h1, h2⟩ := hn
    have sl : SlR W H (ρ0[k]?.getD .unb) (σ0[k]?.getD none) [] := by
      cases ek : ρ0[k]? with
      | none => exact .unb
      | some s =>
        rw [ek] at h1
        cases s with
        | unb => exact .unb
        | own t => cases h1
        | val d =>
          obtain ⟨v, h3, h4⟩ := r0.valAt ek
          rw [h3]
          exact .val (h4.ext e)
    obtain ⟨fp', h'⟩ := h.setv (i := k) sl (by rw [hc]; intro p hp; cases hp)
    exact RelP.restore (ks := ks) r0 e hc (by unfold noOwn; exact h2) h'
theorem wipe_same {σ σ2 : L2.St} {tg : Tg} {own : List Nat} (hw : tg.within own = true) (sm : Same tg.nms (L2.wipe σ own) σ2) : L2.wipe σ2 own = L2.wipe σ own := by
  apply List.ext_getElem?
  intro i
  have hl : σ2.length = σ.length := by rw [sm.1, wipe_length]
  rw [wipe_get, wipe_get, hl]
  by_cases hi : i ∈ own
  · simp [hi]
  · simp only [hi, if_false]
    rw [sm.2 i fun z => hi (within_nms tg hw z), wipe_get]
    simp [hi]
theorem compGo_ne {own : List Nat} {tg : Tg} {ec : Env → Out Bool} {ee : Env → Out D} : ∀ {xs : List D} {ρ : Env} {acc : List D} {d : D} {ρ' : Env}, compGo own tg ec ee xs ρ acc ≠ .exc d ρ'
  | [], _, _, _, _ => fun z => by simp [compGo] at z
  | x :: xs, ρ, acc, d, ρ' => fun z => by
    simp only [compGo] at z
    split at z
    · cases z
    · split at z
      · split at z
        · exact compGo_ne z
        · cases z
      · exact compGo_ne z
      · cases z
def compEv (own : List Nat) (tg : Tg) (ei : Env → Out (List D)) (ec : Env → Out Bool) (ee : Env → Out D) (ρ : Env) : Out T :=
  (ei ρ).bind fun xs ρ => if noOwn ρ own && tg.within own && fits xs.length then (compGo own tg ec ee xs ρ []).bind fun ds ρ' => .ok (.lst (ds.map .fr)) (backE ρ (wipeE ρ' own) own) else .bad
/-- what a comprehension's rule asks -/
theorem lc_read {own : List Nat} {tg : Tg} {ei : Env → Out (List D)} {ec : Env → Out Bool} {ee : Env → Out D} {K : PySem.W.Frag} {σ : L2.St} {H : Hp} {Q : VK} (h : tE W Wx (compEv own tg ei ec ee) σ H Q) :
    tLc (tIt W Wx K ei) (tG W [] tg) (tTe W WF ec) (tD W WF ee) own σ H Q := by
  obtain ⟨C, ρ, rel, q⟩ := h
  refine ⟨C, ρ, rel, ?_⟩
  unfold compEv at q
  cases eo : ei ρ with
  | bad => simp only [eo, Out.bind] at q; exact q.elim
  | exc d ρ1 => simp only [eo, Out.bind] at q; exact q
  | ok xs ρ1 =>
    simp only [eo, Out.bind] at q
    intro J H1 e1 r1 wk L hD
    split at q
    · rename_i hc
      simp only [Bool.and_eq_true] at hc
      obtain ⟨⟨hno, hwi⟩, hfit⟩ := hc
      have hsz := fits_le hfit
      cases eg : compGo own tg ec ee xs ρ1 [] with
      | bad => rw [eg] at q; exact q.elim
      | exc d ρ2 => exact absurd eg compGo_ne
      | ok ds ρ2 =>
        rw [eg] at q
        simp only at q
        obtain ⟨fp0, ro⟩ := r1.opened (o := .lst []) hD (fun _ z => nomatch z)
        have e0 : Ext H1 (upd H1 L (.lst [])) := Ext.new hD
        have lD : ∀ {H : Hp} {vs : List V}, H L = some (.lst vs) → ∀ a ∈ [L], Live H a := fun {H vs} hh a m => by
          have : a = L := by simpa using m
          subst this; exact .inl ⟨_, hh⟩
        let Pv : Nat → Hp → Prop := fun i H => ∃ ρi acc vs fp, compGo own tg ec ee (xs.drop i) ρi acc = .ok ds ρ2 ∧ RelP W ⟨C.G, C.In, []⟩ (wipeE ρi own) (L2.wipe σ own) H fp [L] ∧ H L = some (.lst vs) ∧ Reps W H acc vs ∧ Ext H1 H ∧ acc.length ≤ i
        refine ⟨fun i m H => m = xs.length - i ∧ i ≤ xs.length ∧ Pv i H, ⟨xs.length, by simp, Nat.zero_le _, ?_⟩, ?_⟩
        · obtain ⟨fp1, rw1⟩ := ro.nofix.wipe rfl own
          exact ⟨ρ1, [], [], fp1, by simpa using eg, rw1, upd_same, .nil, e0, by simp⟩
        · rintro i m H2 ⟨rfl, hi, ρi, acc, vs, fp, hg, rp, hHD, ra, e2, hal⟩
          by_cases hlt : i < xs.length
          · refine .inr ⟨wk.go i H2 e2 hlt, Pv (i + 1), fun H' p' => ⟨xs.length - (i + 1), by omega, rfl, hlt, p'⟩, fun x H' y => ?_⟩
            have hx : xs[i]? = some xs[i] := List.getElem?_eq_getElem hlt
            have rs := wk.yld i H2 x H' xs[i] e2 hx y
            rw [List.drop_eq_getElem_cons hlt] at hg
            simp only [compGo] at hg
            cases ha : asgTg tg xs[i] (wipeE ρi own) with
            | none => rw [ha] at hg; cases hg
            | some ρa =>
              rw [ha] at hg
              simp only at hg
              -- the heap with the item
              obtain ⟨e3, rp3, hHD3, rx⟩ : Ext H2 H' ∧ RelP W ⟨C.G, C.In, []⟩ (wipeE ρi own) (L2.wipe σ own) H' fp [L] ∧ H' L = some (.lst vs) ∧ Rep W H' xs[i] x := by
                rcases rs with ⟨rfl, d, ed, rd⟩ | ⟨p, o, hp, ho, rfl, rfl, ⟨d, ed, rd⟩ | od⟩
                · cases ed; exact ⟨Ext.refl _, rp, hHD, rd⟩
                · cases ed; exact ⟨Ext.new hp, rp.new hp ho, by rw [upd_ne (ne_of_none hHD hp)]; exact hHD, rd⟩
                · exact ⟨Ext.new hp, rp.new hp ho, by rw [upd_ne (ne_of_none hHD hp)]; exact hHD, (own_fr od).1⟩
              refine ⟨⟨C.G, C.In, []⟩, wipeE ρi own, xs[i], ρa, fp, [L], fun _ m => (by cases m), free_nil tg, rp3, rx, ha, fun σ2 fp2 r2 sm => ⟨wipe_same hwi sm, ?_⟩⟩
              have again : ∀ {ρb : Env} {H4 : Hp} {fp4 : List Addr} {acc' : List D} {vs' : List V}, compGo own tg ec ee (xs.drop (i + 1)) ρb acc' = .ok ds ρ2 → RelP W ⟨C.G, C.In, []⟩ ρb σ2 H4 fp4 [L] → H4 L = some (.lst vs') → Reps W H4 acc' vs' → Ext H1 H4 → acc'.length ≤ i + 1 → Pv (i + 1) H4 := fun {ρb H4 fp4 acc' vs'} h1 h2 h3 h4 h5 h6 => by
                obtain ⟨fp5, h7⟩ := h2.wipe rfl own
                rw [wipe_same hwi sm] at h7
                exact ⟨ρb, acc', vs', fp5, h1, h7, h3, h4, h5, h6⟩
              have ra3 := ra.ext e3
              cases ec1 : ec ρa with
              | bad => rw [ec1] at hg; cases hg
              | exc d ρb => rw [ec1] at hg; cases hg
              | ok b ρb =>
                rw [ec1] at hg
                refine ⟨⟨H', fp2, []⟩, ρa, ⟨fp2, r2.base2⟩, ?_⟩
                rw [ec1]
                intro H4 e4 ⟨fp4, r4⟩
                obtain ⟨ke, r5⟩ := r2.back2 (lD hHD3) r4
                have hHD4 : H4 L = some (.lst vs) := (ke L (by simp)).trans hHD3
                cases b with
                | false =>
                  simp only at hg
                  simp only [Bool.false_eq_true, if_false]
                  exact again hg (by simpa using r5) hHD4 (ra3.ext e4) (e2.trans (e3.trans e4)) (by omega)
                | true =>
                  simp only at hg
                  simp only [if_true]
                  cases ee1 : ee ρb with
                  | bad => rw [ee1] at hg; cases hg
                  | exc d ρc => rw [ee1] at hg; cases hg
                  | ok dd ρc =>
                    rw [ee1] at hg
                    simp only at hg
                    refine ⟨⟨H', fp2, []⟩, ρb, ⟨fp4, r4⟩, ?_⟩
                    rw [ee1]
                    intro y H5 e5 ⟨fp5, r6⟩ ry
                    obtain ⟨ke2, r7⟩ := r2.back2 (lD hHD3) r6
                    have hHD5 : H5 L = some (.lst vs) := (ke2 L (by simp)).trans hHD3
                    have lv := lD hHD5 L (by simp)
                    have r8 := (show RelP W ⟨C.G, C.In, []⟩ ρc σ2 H5 fp5 [L] by simpa using r7).write (o := .lst (vs ++ [y])) (by simp) lv (fun _ z => nomatch z)
                    have e6 : Ext H5 (upd H5 L (.lst (vs ++ [y]))) := Ext.upd lv
                    have e7 := e4.trans (e5.trans e6)
                    refine ⟨vs, hHD5, ?_, again hg r8 upd_same ((ra3.ext e7).append (.cons (ry.ext e6) .nil)) (e2.trans (e3.trans e7)) (by simp; omega)⟩
                    rw [← ra.length]; omega
          · have ei : i = xs.length := by omega
            subst ei
            refine .inl ⟨wk.stop H2 e2, ?_⟩
            rw [List.drop_length] at hg
            simp only [compGo] at hg
            cases hg
            obtain ⟨fpr, rr⟩ := r1
            obtain ⟨fp', r'⟩ := rp.restore (H0 := H1) rr.slots e2 rfl hno
            have es : backS σ (L2.wipe σ own) own = σ := by
              apply List.ext_getElem?
              intro j
              exact backS_get (wipe_length _ _) fun k hk => by rw [wipe_get]; simp [hk]
            rw [es] at r'
            exact q (.ref L) H2 (e1.trans e2) ⟨fp', [L], .lst hHD (ra.owns), r'.slots, r'.nd, r'.own, r'.frame, r'.dom, rr.fix, r'.tabs⟩
    · exact q.elim
/-- a context's twin for a block -/
theorem GX.blk {s : Shared} {H : Hp} {C : Addr} {cl : List (Str × Addr)} {fp : List Addr} {scope : Scope} (g : GX W Wx X) : GX W WF (X.blk s H scope (compEnvC scope cl C X.env) fp) := by
  refine ⟨g.hK, g.calm, g.nd, ?_, g.hu, g.hg⟩
  rintro u s' ⟨a, B, sI, pins, σ, H, cls, d, e, I, nb, up, sky, na, os, ag, w⟩
  exact w.elim
theorem sb_lc {elt tgx iter : Expr} {ifs : List Expr} {scope : Scope} {own : List (Str × Nat)} {tg : Tg} {ei : Env → Out (List D)} {ec : Env → Out Bool} {ee : Env → Out D} (g : GX W Wx X) (hi : PI X tgx iter (tIt W Wx X.K ei)) (ok : BlkOk X.N X.env.scope scope own)
    (hg : ∀ (s : Shared) (H : Hp) (C : Addr) (cl : List (Str × Addr)) (fp : List Addr), PG (X.blk s H scope (compEnvC scope cl C X.env) fp) tgx (tG W [] tg)) (ht : ∀ (s : Shared) (H : Hp) (C : Addr) (cl : List (Str × Addr)) (fp : List Addr), PTs (X.blk s H scope (compEnvC scope cl C X.env) fp) ifs (tTe W WF ec))
    (he : ∀ (s : Shared) (H : Hp) (C : Addr) (cl : List (Str × Addr)) (fp : List Addr), PE (X.blk s H scope (compEnvC scope cl C X.env) fp) elt (tD W WF ee)) (hs : ∀ x, foldedSetIterable iter X.env x = pure x) :
    PE X (.ListComp elt [⟨tgx, iter, ifs, 0⟩] scope pos) (tE W Wx (compEv (own.map (·.2)) tg ei ec ee)) :=
  (pe_lc g.calm g.nd hi ok hg ht he hs).mono fun σ H Q q => lc_read q
end
end Eg
set_option Elab.async false
set_option linter.all false
set_option maxRecDepth 100000
set_option maxHeartbeats 4000000
/-! the engine: statements -/
namespace Eg
open PySem PySem.Spec PyProof.Rows L2

section
variable {W : Wd} {Wx : WX} {X : Cx} {pos p p2 tpos : Pos}
theorem Owns.append {H : Hp} : ∀ {ts us : List T} {vs ws : List V} {fp gp : List Addr}, Owns W H ts vs fp → Owns W H us ws gp → Owns W H (ts ++ us) (vs ++ ws) (fp ++ gp)
  | _, _, _, _, _, _, .nil, s => s
  | _, _, _, _, _, _, .cons h r, s => by
    have := Owns.cons h (Owns.append r s)
    simpa using this
theorem Owns.set {H : Hp} {d : D} {v : V} (q : Rep W H d v) : ∀ {ts : List T} {vs : List V} {fp : List Addr} {j : Nat}, Owns W H ts vs fp → ∃ fp', Owns W H (ts.set j (.fr d)) (vs.set j v) fp' ∧ fp'.Sublist fp
  | _, _, _, _, .nil => ⟨[], .nil, List.Sublist.refl _⟩
  | _, _, _, 0, .cons (fp := fp) (fps := fps) h r => ⟨[] ++ fps, .cons (.fr q) r, by simp⟩
  | _, _, _, j + 1, .cons (fp := fp) (fps := fps) h r => by
    obtain ⟨fp', h1, h2⟩ := Owns.set (j := j) q r
    exact ⟨fp ++ fp', .cons h h1, List.Sublist.append (List.Sublist.refl _) h2⟩
theorem Owns.erase {H : Hp} : ∀ {ts : List T} {vs : List V} {fp : List Addr} {j : Nat}, Owns W H ts vs fp → ∃ fp', Owns W H (ts.eraseIdx j) (vs.eraseIdx j) fp' ∧ fp'.Sublist fp
  | _, _, _, _, .nil => ⟨[], .nil, List.Sublist.refl _⟩
  | _, _, _, 0, .cons (fp := fp) (fps := fps) h r => ⟨fps, r, by simp⟩
  | _, _, _, j + 1, .cons (fp := fp) (fps := fps) h r => by
    obtain ⟨fp', h1, h2⟩ := Owns.erase (j := j) r
    exact ⟨fp ++ fp', .cons h h1, List.Sublist.append (List.Sublist.refl _) h2⟩
/-- an own list is written -/
theorem Rel.updLst {C : Fx} {ρ : Env} {σ : L2.St} {H : Hp} {i : Nat} {ts : List T} (rel : Rel W C ρ σ H) (e : ρ[i]? = some (.own (.lst ts))) : ∃ a vs, σ[i]? = some (some (.ref a)) ∧ H a = some (.lst vs) ∧ (∃ fp, Owns W H ts vs fp) ∧
    ∀ ts' vs', (∀ fp, Owns W H ts vs fp → ∃ fp', Owns W H ts' vs' fp' ∧ fp'.Sublist fp) → Ext H (upd H a (.lst vs')) ∧ Rel W C (ρ.set i (.own (.lst ts'))) σ (upd H a (.lst vs')) := by
  obtain ⟨fp, r⟩ := rel
  obtain ⟨o, f1, f2, f3, h1, h2, h3, h4⟩ := r.slots.at e
  cases h3 with
  | own ow =>
    cases ow with
    | lst ha os =>
      rename_i a vs fpo
      subst h2
      have nd := r.nd
      simp only [List.append_nil] at nd
      obtain ⟨n1, n2, n3⟩ := List.nodup_append.mp nd
      obtain ⟨m1, m2, m3⟩ := List.nodup_append.mp n2
      obtain ⟨k1, k2⟩ := List.nodup_cons.mp m1
      refine ⟨a, vs, h1, ha, ⟨fpo, os⟩, fun ts' vs' tr => ?_⟩
      obtain ⟨fp', os', sub⟩ := tr fpo os
      have lv : Live H a := .inl ⟨_, ha⟩
      have ex : Ext H (upd H a (.lst vs')) := Ext.upd lv
      have ko : ∀ b ∈ f1 ++ f3, upd H a (.lst vs') b = H b := fun b m => upd_ne fun z => by
        subst z
        rcases List.mem_append.mp m with m | m
        · exact n3 b m b (by simp) rfl
        · exact m3 b (by simp) b m rfl
      have os2 : Owns W (upd H a (.lst vs')) ts' vs' fp' := os'.ext ex fun b m => upd_ne fun z => k1 (z ▸ sub.subset m)
      have sl := h4 (upd H a (.lst vs')) (.own (.lst ts')) (some (.ref a)) (a :: fp') ex ko (.own (.lst upd_same os2))
      rw [set_same h1] at sl
      have sub2 : (f1 ++ (a :: fp' ++ f3)).Sublist (f1 ++ (a :: fpo ++ f3)) := List.Sublist.append (List.Sublist.refl _) (List.Sublist.append (List.Sublist.cons₂ a sub) (List.Sublist.refl _))
      refine ⟨ex, _, sl, by simpa using nd.sublist sub2, fun b m => r.own b ?_, fun b u g n nt => ?_, fun b g => ?_, r.fix, Tabs.keep r.tabs ex fun b ps g => ?_⟩
      · simp only [List.append_nil] at m ⊢
        exact sub2.subset m
      · rw [upd_ne fun z => ?_]; exact r.frame b u g n nt
        subst z
        rcases r.own b (by simp) with y | y
        · exact n y
        · rw [g] at y; cases y
      · by_cases z : b = a
        · rw [z, upd_same]; exact fun z => nomatch z
        · rw [upd_ne z]; exact r.dom b g
      · rw [upd_ne fun z => ?_]; exact g
        rw [z, ha] at g; cases g
/-- an own thing is stored into a name -/
theorem RelT.store {C : Fx} {ρ : Env} {σ : L2.St} {H : Hp} {i : Nat} {t : T} {v : V} (h : RelT W C ρ σ H t v) (hi : i < ρ.length) (nf : ∀ p ∈ C.fix, p.1 ≠ i) : Rel W C (ρ.set i (.own t)) (σ.set i (some v)) H := by
  obtain ⟨fp, ft, ow, r⟩ := h
  obtain ⟨n1, n2, n3⟩ := List.nodup_append.mp r.nd
  obtain ⟨s, hs⟩ : ∃ s, ρ[i]? = some s := ⟨ρ[i], List.getElem?_eq_getElem hi⟩
  obtain ⟨o, f1, f2, f3, h1, h2, _, h4⟩ := r.slots.at hs
  subst h2
  have sl := h4 H (.own t) (some v) ft (Ext.refl _) (fun _ _ => rfl) (.own ow)
  obtain ⟨k1, k2, k3⟩ := List.nodup_append.mp n1
  obtain ⟨m1, m2, m3⟩ := List.nodup_append.mp k2
  refine ⟨_, sl, ?_, fun a m => ?_, r.frame, r.dom, fun p hp => ?_, r.tabs⟩
  · simp only [List.append_nil]
    refine List.nodup_append.mpr ⟨k1, List.nodup_append.mpr ⟨n2, m2, fun a m b m' z => n3 b (by simp [m']) a m z.symm⟩, fun a m b m' z => ?_⟩
    rcases List.mem_append.mp m' with m' | m'
    · exact n3 a (by simp [m]) b m' z
    · exact k3 a m b (by simp [m']) z
  · simp only [List.append_nil, List.mem_append] at m
    refine r.own a ?_
    simp only [List.mem_append]
    rcases m with m | m | m
    · exact .inl (.inl m)
    · exact .inr m
    · exact .inl (.inr (.inr m))
  · rw [List.getElem?_set_ne (Ne.symm (nf p hp))]; exact r.fix p hp
theorem Rel.setv {C : Fx} {ρ : Env} {σ : L2.St} {H : Hp} {i : Nat} {d : D} {v : V} (h : Rel W C ρ σ H) (q : Rep W H d v) (nf : ∀ p ∈ C.fix, p.1 ≠ i) : Rel W C (ρ.set i (.val d)) (σ.set i (some v)) H := by
  obtain ⟨fp, h⟩ := h
  obtain ⟨fp', h'⟩ := h.setv (i := i) (.val q) nf
  exact ⟨fp', h'⟩

/-! ### readings -/
def wS (W : Wd) (C : Fx) (Wx : WX) (o : SO) (D : Ends) (H : Hp) : Prop := match o with
  | .next ρ => ∀ σ' H', Ext H H' → Rel W C ρ σ' H' → D.nx σ' H'
  | .ret t ρ => ∀ v σ' H', Ext H H' → RelT W C ρ σ' H' t v → D.rt v H'
  | .brk ρ => ∀ σ' H', Ext H H' → Rel W C ρ σ' H' → D.bk σ' H'
  | .cnt ρ => ∀ σ' H', Ext H H' → Rel W C ρ σ' H' → D.ct σ' H'
  | .exc d ρ => ∀ cls dx σ' H', Ext H H' → RepX W H' d cls dx → Rel W C ρ σ' H' → Wx cls dx σ' H'
  | .bad => False
def tS (W : Wd) (Wx : WX) (io : List Nat) (ev : Env → SO) : TS := fun D σ H => ∃ C ρ, FixIn C io ∧ Rel W C ρ σ H ∧ wS W C Wx (ev ρ) D H
theorem wS.mono {C : Fx} {o : SO} {D : Ends} {H H1 : Hp} (e : Ext H H1) (h : wS W C Wx o D H) : wS W C Wx o D H1 := by
  cases o with
  | next ρ => exact fun σ' H' e' => h σ' H' (e.trans e')
  | ret t ρ => exact fun v σ' H' e' => h v σ' H' (e.trans e')
  | brk ρ => exact fun σ' H' e' => h σ' H' (e.trans e')
  | cnt ρ => exact fun σ' H' e' => h σ' H' (e.trans e')
  | exc d ρ => exact fun cls dx σ' H' e' => h cls dx σ' H' (e.trans e')
  | bad => exact h
theorem _root_.L2.PS.mono {st : Stmt} {t t' : TS} (h : PS X st t) (k : ∀ D σ H, t' D σ H → t D σ H) : PS X st t' := ⟨fun pins s σ H D I q => h.run pins s σ H D I (k D σ H q)⟩
theorem _root_.L2.PSs.mono {st : List Stmt} {t t' : TS} (h : PSs X st t) (k : ∀ D σ H, t' D σ H → t D σ H) : PSs X st t' := ⟨fun pins s σ H D I q => h.run pins s σ H D I (k D σ H q)⟩
variable {io kp : List Nat} {D : Ends} {C : Fx} {σ : L2.St} {H : Hp}
/-- a value ahead of a statement's step -/
theorem wS_ofE {o : Out T} {f : T → Env → SO} (h : wS W C Wx (SO.of o f) D H) : wE W C Wx o σ H (fun v H1 => ∃ t ρ, Ext H H1 ∧ o = .ok t ρ ∧ RelT W C ρ σ H1 t v ∧ wS W C Wx (f t ρ) D H1) := by
  cases o with
  | ok t ρ => exact fun v H1 e r => ⟨t, ρ, e, rfl, r, wS.mono e h⟩
  | exc d ρ => exact fun cls dx H' e rx r => h cls dx σ H' e rx r
  | bad => exact h
theorem wS_ofD {o : Out Eg.D} {f : Eg.D → Env → SO} {Dn : Ends} (h : wS W C Wx (SO.of o f) Dn H) : wD W C Wx o σ H (fun v H1 => ∃ d ρ, Ext H H1 ∧ Rel W C ρ σ H1 ∧ Rep W H1 d v ∧ wS W C Wx (f d ρ) Dn H1) := by
  cases o with
  | ok t ρ => exact fun v H1 e r p => ⟨t, ρ, e, r, p, wS.mono e h⟩
  | exc d ρ => exact fun cls dx H' e rx r => h cls dx σ H' e rx r
  | bad => exact h
theorem wS_ofT {o : Out Bool} {f : Bool → Env → SO} (h : wS W C Wx (SO.of o f) D H) : wT W C Wx o σ H (fun b H1 => ∃ ρ, Ext H H1 ∧ Rel W C ρ σ H1 ∧ wS W C Wx (f b ρ) D H1) := by
  cases o with
  | ok t ρ => exact fun H1 e r => ⟨ρ, e, r, wS.mono e h⟩
  | exc d ρ => exact fun cls dx H' e rx r => h cls dx σ H' e rx r
  | bad => exact h
theorem wE.imp {o : Out T} {Q Q' : VK} (h : wE W C Wx o σ H Q) (k : ∀ v H, Q v H → Q' v H) : wE W C Wx o σ H Q' := by
  cases o with
  | ok t ρ => exact fun v H1 e r => k _ _ (h v H1 e r)
  | exc d ρ => exact h
  | bad => exact h
theorem wD.imp {o : Out Eg.D} {Q Q' : VK} (h : wD W C Wx o σ H Q) (k : ∀ v H, Q v H → Q' v H) : wD W C Wx o σ H Q' := by
  cases o with
  | ok t ρ => exact fun v H1 e r p => k _ _ (h v H1 e r p)
  | exc d ρ => exact h
  | bad => exact h
theorem wT.imp {o : Out Bool} {Q Q' : Bool → Hp → Prop} (h : wT W C Wx o σ H Q) (k : ∀ v H, Q v H → Q' v H) : wT W C Wx o σ H Q' := by
  cases o with
  | ok t ρ => exact fun H1 e r => k _ _ (h H1 e r)
  | exc d ρ => exact h
  | bad => exact h
/-! ### the small ones -/
theorem ss_pass : PS X (.Pass pos) (tS W Wx io fun ρ => .next ρ) := ps_pass.mono fun D σ H ⟨C, ρ, hf, rel, q⟩ => q σ H (Ext.refl _) rel
theorem ss_brk : PS X (.Break pos) (tS W Wx io fun ρ => .brk ρ) := ps_break.mono fun D σ H ⟨C, ρ, hf, rel, q⟩ => q σ H (Ext.refl _) rel
theorem ss_cnt : PS X (.Continue pos) (tS W Wx io fun ρ => .cnt ρ) := ps_continue.mono fun D σ H ⟨C, ρ, hf, rel, q⟩ => q σ H (Ext.refl _) rel
theorem ss_nil : PSs X [] (tS W Wx io fun ρ => .next ρ) := pss_nil.mono fun D σ H ⟨C, ρ, hf, rel, q⟩ => q σ H (Ext.refl _) rel
def seqS (a b : Env → SO) (ρ : Env) : SO := match a ρ with
  | .next ρ => b ρ
  | o => o
theorem ss_cons {st : Stmt} {rest : List Stmt} {ea eb : Env → SO} (h1 : PS X st (tS W Wx io ea)) (h2 : PSs X rest (tS W Wx io eb)) : PSs X (st :: rest) (tS W Wx io (seqS ea eb)) := by
  refine (pss_cons h1 h2).mono fun D σ H ⟨C, ρ, hf, rel, q⟩ => ⟨C, ρ, hf, rel, ?_⟩
  unfold seqS at q
  cases eo : ea ρ with
  | next ρ1 => rw [eo] at q; exact fun σ1 H1 e1 r1 => ⟨C, ρ1, hf, r1, wS.mono e1 q⟩
  | ret t ρ1 => rw [eo] at q; exact q
  | brk ρ1 => rw [eo] at q; exact q
  | cnt ρ1 => rw [eo] at q; exact q
  | exc d ρ1 => rw [eo] at q; exact q
  | bad => rw [eo] at q; exact q
variable {e : Expr} {ee : Env → Out T} {ed : Env → Out Eg.D}
theorem ss_expr (he : PE X e (tE W Wx ee)) (hs : swapsWith e none pos.line X.env = pure false) : PS X (.Expr e pos) (tS W Wx io fun ρ => SO.of (ee ρ) fun _ ρ => .next ρ) :=
  (ps_expr he hs).mono fun D σ H ⟨C, ρ, hf, rel, q⟩ => ⟨C, ρ, rel, (wS_ofE q).imp fun v H1 ⟨t, ρ1, e1, _, r1, q1⟩ => q1 σ H1 (Ext.refl _) r1.rel⟩
theorem ss_ret (he : PE X e (tE W Wx ee)) : PS X (.Return (some e) pos) (tS W Wx io fun ρ => SO.of (ee ρ) fun t ρ => .ret t ρ) :=
  (ps_ret he).mono fun D σ H ⟨C, ρ, hf, rel, q⟩ => ⟨C, ρ, rel, (wS_ofE q).imp fun v H1 ⟨t, ρ1, e1, _, r1, q1⟩ => q1 v σ H1 (Ext.refl _) r1⟩
theorem ss_retN : PS X (.Return none pos) (tS W Wx io fun ρ => .ret (.fr .non) ρ) :=
  ps_retN.mono fun D σ H ⟨C, ρ, hf, rel, q⟩ => q .non σ H (Ext.refl _) (rel.relT .non)
variable {test : Expr} {a b : List Stmt} {ec : Env → Out Bool} {ea eb : Env → SO}
theorem ss_if (hc : PT X test (tTe W Wx ec)) (ha : PSs X a (tS W Wx io ea)) (hb : PSs X b (tS W Wx io eb)) : PS X (.If test a b pos) (tS W Wx io fun ρ => SO.of (ec ρ) fun k ρ => if k then ea ρ else eb ρ) := by
  refine (ps_if hc ha hb).mono fun D σ H ⟨C, ρ, hf, rel, q⟩ => ⟨C, ρ, rel, (wS_ofT q).imp fun k H1 ⟨ρ1, e1, r1, q1⟩ => ?_⟩
  cases k with
  | true => exact ⟨C, ρ1, hf, r1, q1⟩
  | false => exact ⟨C, ρ1, hf, r1, q1⟩
/-- name = e, the store by a rule of its own -/
theorem ss_set {st : Stmt} {i : Nat} (hS : PS X st (tAsg (tE W Wx ee) (gName i))) : PS X st (tS W Wx io fun ρ => SO.of (ee ρ) fun t ρ => store io kp i t ρ) := by
  refine ⟨fun pins s σ H D I ⟨C, ρ, hf, rel, q⟩ => ?_⟩
  have hq := hS.run pins s σ H { D with nx := fun σ1 H1 => ∃ (t : T) (ρ1 : Env), Ext H H1 ∧ i < ρ1.length ∧ Rel W C (ρ1.set i (.own t)) σ1 H1 ∧ ∀ σ' H', Ext H1 H' → Rel W C (ρ1.set i (slKeep (kp.contains i) t)) σ' H' → D.nx σ' H' } I
    ⟨C, ρ, rel, (wS_ofE q).imp fun v H1 ⟨t, ρ1, e1, _, r1, q1⟩ => ?_⟩
  · refine thn hq fun f s1 h1 => ?_
    cases f with
    | next =>
      obtain ⟨σ1, H1, I1, t, ρ1, e1, hi, r1, k⟩ := h1
      cases hk : kp.contains i with
      | true =>
        rw [hk] at k
        exact ⟨σ1, H1, I1, k σ1 H1 (Ext.refl _) r1⟩
      | false =>
        rw [hk] at k
        obtain ⟨v, H2, _, I2, e2, r2, _⟩ := r1.freezeAt I1 (i := i) (t := t) (by rw [List.getElem?_set_self hi])
        rw [List.set_set] at r2
        exact ⟨σ1, H2, I2, k σ1 H2 e2 r2⟩
    | brk => exact h1
    | cont => exact h1
    | ret v => exact h1
  · unfold store at q1
    split at q1
    · rename_i hc
      simp only [Bool.and_eq_true, decide_eq_true_eq, Bool.not_eq_true'] at hc
      have nf : ∀ p ∈ C.fix, p.1 ≠ i := fun p hp z => by
        have := hf p hp
        rw [z] at this
        rw [List.contains_iff_mem.mpr this] at hc; cases hc.1
      exact ⟨t, ρ1, e1, hc.2, r1.store hc.2 nf, fun σ' H' e' r' => q1 σ' H' e' r'⟩
    · exact q1.elim
/-- a target of several names -/
theorem ss_asgT {tg : Expr} {t : Tg} (he : PE X e (tD W Wx ed)) (hg : PG X tg (tG W io t)) (hs : swapsWithSole [tg] e pos.line X.env = pure false) (hw : swappedStores [tg] e X.env = pure none) (h1 : (assignEach [tg] X.env).map (·.2) = [assign tg X.env]) :
    PS X (.Assign [tg] e pos) (tS W Wx io fun ρ => SO.of (ed ρ) fun d ρ => if t.free io then match asgTg t d ρ with
    | some ρ => .next ρ
    | none => .bad
    else .bad) := by
  refine (ps_asg he hg hs hw h1).mono fun D σ H ⟨C, ρ, hf, rel, q⟩ => ⟨C, ρ, rel, (wS_ofD q).imp fun v H1 ⟨d, ρ1, e1, ⟨fp, r1⟩, p1, q1⟩ => ?_⟩
  split at q1
  · rename_i hfree
    cases ha : asgTg t d ρ1 with
    | none => rw [ha] at q1; exact q1.elim
    | some ρ2 =>
      rw [ha] at q1
      exact ⟨C, ρ1, d, ρ2, fp, [], hf, hfree, r1, p1, ha, fun σ' fp' r' _ => q1 σ' H1 (Ext.refl _) ⟨fp', r'⟩⟩
  · exact q1.elim

/-! ### own lists -/
theorem isLstS_ok {s : Option Sl} (h : isLstS s = true) : ∃ ts, s = some (.own (.lst ts)) := by
  unfold isLstS at h
  split at h
  · exact ⟨_, rfl⟩
  · cases h
/-- xs.append(e) -/
theorem ss_app {x : Str} {i : Nat} {apos cpos : Pos} (hN : X.N[i]? = some x) (hv : Vis X.env.scope x) (hd : (x == ("__debug__" : Str)) = false) (hcd : (x == ("__classdict__" : Str)) = false) (he : PE X e (tD W Wx ed)) (hst : isStar e = false) (hline : (apos.endLine == cpos.line) = true)
    (hbase : attributeBase (.Name x p) "append" X.env (eval (.Name x p) X.env) = eval (.Name x p) X.env)
    (hfew : ((backTo cpos (starEach [e] X.env)).all (fun x => !x.1) && (backToKw cpos (keywordEach [] X.env)).all (fun x => x.1.isSome) && decide (([e] : List Expr).length + ([] : List Keyword).length + (if ([] : List Keyword).isEmpty then 0 else 1) < 30)) = true) :
    PS X (.Expr (.Call (.Attribute (.Name x p) "append" apos) [e] [] cpos) pos) (tS W Wx io fun ρ => if !isLstS ρ[i]? then .bad else SO.of (ed ρ) fun d ρ => match ρ[i]? with
    | some (.own (.lst ts)) => if ts.length < 16777216 then .next (ρ.set i (.own (.lst (ts ++ [.fr d])))) else .bad
    | _ => .bad) := by
  refine (ps_expr (pe_bm PySem.F.plainAttrs_list PySem.F.slot_list_append PySem.F.type_list_append mt_append (pe_var (pos := p) hN hv hd hcd) (pa_cons he pa_nil (plain_star (isStar_ne hst))) hbase hfew hline (plain_star (isStar_ne hst)) rfl)).mono fun D σ H ⟨C, ρ, hf, rel, q⟩ => ?_
  cases hl : isLstS ρ[i]? with
  | false => simp only [hl] at q; exact q.elim
  | true =>
    simp only [hl] at q
    obtain ⟨ts0, e0⟩ := isLstS_ok hl
    obtain ⟨a0, vs0, s0, h0, _, _⟩ := rel.updLst e0
    refine ⟨.ref a0, s0, .inl ⟨rfl, vs0, .inl (.inl h0)⟩, C, ρ, rel, (wS_ofD q).imp fun v H1 ⟨d, ρ1, e1, r1, p1, q1⟩ => ?_⟩
    split at q1
    · rename_i ts es
      split at q1
      · rename_i hlen
        obtain ⟨a, vs, s1, h1, ⟨fp, os⟩, up⟩ := r1.updLst es
        rw [s0] at s1; cases s1
        obtain ⟨e2, r2⟩ := up (ts ++ [.fr d]) (vs ++ [v]) fun fp os => ⟨fp ++ [], os.append (by have := Owns.cons (Own.fr p1) Owns.nil; simpa using this), by simp⟩
        exact ⟨a0, vs, v, rfl, rfl, h1, by rw [sizeLine_eq, ← os.length]; exact hlen, q1 σ _ e2 r2⟩
      · exact q1.elim
    · exact q1.elim
/-- xs.extend(e) -/
theorem ss_ext {x : Str} {i : Nat} {apos cpos : Pos} (hN : X.N[i]? = some x) (hv : Vis X.env.scope x) (hd : (x == ("__debug__" : Str)) = false) (hcd : (x == ("__classdict__" : Str)) = false) (he : PE X e (tE W Wx ee)) (hst : isStar e = false) (hline : (apos.endLine == cpos.line) = true)
    (hbase : attributeBase (.Name x p) "extend" X.env (eval (.Name x p) X.env) = eval (.Name x p) X.env)
    (hfew : ((backTo cpos (starEach [e] X.env)).all (fun x => !x.1) && (backToKw cpos (keywordEach [] X.env)).all (fun x => x.1.isSome) && decide (([e] : List Expr).length + ([] : List Keyword).length + (if ([] : List Keyword).isEmpty then 0 else 1) < 30)) = true) :
    PS X (.Expr (.Call (.Attribute (.Name x p) "extend" apos) [e] [] cpos) pos) (tS W Wx io fun ρ => if !isLstS ρ[i]? then .bad else SO.of (ee ρ) fun t ρ => extS i t ρ) := by
  refine (ps_expr (pe_bm PySem.F.plainAttrs_list PySem.F.slot_list_extend PySem.F.type_list_extend mt_extend (pe_var (pos := p) hN hv hd hcd) (pa_cons he pa_nil (plain_star (isStar_ne hst))) hbase hfew hline (plain_star (isStar_ne hst)) rfl)).mono fun D σ H ⟨C, ρ, hf, rel, q⟩ => ?_
  cases hl : isLstS ρ[i]? with
  | false => simp only [hl] at q; exact q.elim
  | true =>
    simp only [hl] at q
    obtain ⟨ts0, e0⟩ := isLstS_ok hl
    obtain ⟨a0, vs0, s0, h0, _, _⟩ := rel.updLst e0
    refine ⟨.ref a0, s0, .inl ⟨rfl, vs0, .inl (.inl h0)⟩, C, ρ, rel, (wS_ofE q).imp fun v H1 ⟨t, ρ1, e1, _, r1, q1⟩ => ?_⟩
    unfold extS at q1
    split at q1
    · rename_i us
      split at q1
      · rename_i ts ds es ef
        split at q1
        · rename_i hlen
          obtain ⟨fpx, ft, ow, rp⟩ := id r1
          cases ow with
          | @lst _ b ws gp hb osb =>
            obtain ⟨rds, _⟩ := frs_owns ef osb
            obtain ⟨a, vs, s1, h1, ⟨fp, os⟩, up⟩ := r1.rel.updLst es
            rw [s0] at s1; cases s1
            obtain ⟨e2, r2⟩ := up (ts ++ ds.map .fr) (vs ++ ws) fun fp os => ⟨fp ++ [], os.append rds.owns, by simp⟩
            have hz := fits_le hlen
            exact ⟨a0, b, vs, ws, rfl, rfl, h1, hb, by rw [← os.length, ← rds.length]; exact hz, q1 σ _ e2 r2⟩
        · exact q1.elim
      · exact q1.elim
    · exact q1.elim
/-- xs[k] = e -/
theorem ss_asgI {x : Str} {i : Nat} {ix : Expr} {ei : Env → Out Eg.D} {tpos : Pos} (hN : X.N[i]? = some x) (hv : Vis X.env.scope x) (hd : (x == ("__debug__" : Str)) = false) (hcd : (x == ("__classdict__" : Str)) = false) (he : PE X e (tD W Wx ed)) (hi : PE X ix (tD W Wx ei))
    (ha : ∀ v, assign (.Subscript (.Name x p) ix tpos) X.env v = (do
      let ov ← holding [v] (eval (.Name x p) X.env)
      let iv ← holding [v, ov] (eval ix X.env)
      standAt tpos
      holding [v, ov, iv] (setItem ov iv v)
      release [v, ov, iv] []))
    (hs : swapsWithSole [.Subscript (.Name x p) ix tpos] e pos.line X.env = pure false) (hw : swappedStores [.Subscript (.Name x p) ix tpos] e X.env = pure none) :
    PS X (.Assign [.Subscript (.Name x p) ix tpos] e pos) (tS W Wx io fun ρ => SO.of (ed ρ) fun d ρ => if !isLstS ρ[i]? then .bad else SO.of (ei ρ) fun y ρ =>
    match ρ[i]?, y with
    | some (.own (.lst ts)), .int k => match L2.ixN ts.length k with
        | some j => .next (ρ.set i (.own (.lst (ts.set j (.fr d)))))
        | none => .bad
    | _, _ => .bad) := by
  refine (ps_asg he (pg_sub (pe_var (pos := p) hN hv hd hcd) hi set_list ha) hs hw).mono fun D σ H ⟨C, ρ, hf, rel, q⟩ => ⟨C, ρ, rel, (wS_ofD q).imp fun v H1 ⟨d, ρ1, e1, r1, p1, q1⟩ => ?_⟩
  cases hl : isLstS ρ1[i]? with
  | false => simp only [hl] at q1; exact q1.elim
  | true =>
    simp only [hl] at q1
    obtain ⟨ts0, e0⟩ := isLstS_ok hl
    obtain ⟨a0, vs0, s0, h0, _, _⟩ := r1.updLst e0
    refine ⟨.ref a0, s0, C, ρ1, r1, (wS_ofD q1).imp fun u H2 ⟨y, ρ2, e2, r2, p2, q2⟩ => ?_⟩
    split at q2
    · rename_i ts k es
      cases p2
      split at q2
      · rename_i j ej
        obtain ⟨a, vs, s1, h1, ⟨fp, os⟩, up⟩ := r2.updLst es
        rw [s0] at s1; cases s1
        obtain ⟨e3, r3⟩ := up (ts.set j (.fr d)) (vs.set j v) fun fp os => Owns.set (p1.ext e2) os
        exact ⟨a0, vs, k, j, rfl, rfl, h1, by rw [← os.length]; exact ej, q2 σ _ e3 r3⟩
      · exact q2.elim
    · exact q2.elim
end
end Eg
set_option Elab.async false
set_option linter.all false
set_option maxRecDepth 100000
set_option maxHeartbeats 4000000
/-! the engine: loops; a def's promise -/
namespace Eg
open PySem PySem.Spec PyProof.Rows L2

section
variable {W : Wd} {Wx : WX} {X : Cx} {pos p p2 tpos : Pos} {io kp : List Nat}
/-- for .. in .. -/
theorem ss_for {tg iter : Expr} {body : List Stmt} {t : Tg} {ei : Env → Out (List D)} {eb : Env → SO} (hp : PassesOwn (model X.prog X.w) X.A X.env X.xe) (g : GX W Wx X) (hi : PI X tg iter (tIt W Wx X.K ei)) (hg : PG X tg (tG W io t)) (hb : PSs X body (tS W Wx io eb)) (hs : ∀ x, foldedSetIterable iter X.env x = pure x) :
    PS X (.For tg iter body [] pos) (tS W Wx io fun ρ => SO.of (ei ρ) fun xs ρ => if t.free io then forGo t eb xs ρ else .bad) := by
  refine (ps_for hp g.calm hi hg hb hs).mono fun D σ H ⟨C, ρ, hf, rel, q⟩ => ⟨C, ρ, rel, ?_⟩
  cases eo : ei ρ with
  | bad => simp only [eo, SO.of] at q; exact q.elim
  | exc d ρ1 => simp only [eo, SO.of] at q; exact fun cls dx H' e rx r => q cls dx σ H' e rx r
  | ok xs ρ1 =>
    simp only [eo, SO.of] at q
    intro J H1 e1 r1 wk
    split at q
    · rename_i hfree
      refine ⟨fun i m σ' H' => m = xs.length - i ∧ i ≤ xs.length ∧ ∃ ρi, Ext H1 H' ∧ Rel W C ρi σ' H' ∧ wS W C Wx (forGo t eb (xs.drop i) ρi) D H', ⟨xs.length, by simp, Nat.zero_le _, ρ1, Ext.refl _, r1, by simpa using wS.mono e1 q⟩, ?_⟩
      rintro i m σ2 H2 ⟨rfl, hi, ρi, e2, r2, q2⟩
      by_cases hlt : i < xs.length
      · refine .inr ⟨wk.go i H2 e2 hlt, fun σ' H' => ∃ ρi, Ext H1 H' ∧ Rel W C ρi σ' H' ∧ wS W C Wx (forGo t eb (xs.drop (i + 1)) ρi) D H', fun σ' H' p' => ⟨xs.length - (i + 1), by omega, rfl, hlt, p'⟩, fun x H3 y => ?_⟩
        have hx : xs[i]? = some xs[i] := List.getElem?_eq_getElem hlt
        have rs := wk.yld i H2 x H3 xs[i] e2 hx y
        obtain ⟨e3, fp, ft, ow, r3⟩ := rs.rel r2
        obtain ⟨rx, rfl⟩ := own_fr ow
        rw [List.drop_eq_getElem_cons hlt] at q2
        simp only [forGo] at q2
        cases ha : asgTg t xs[i] ρi with
        | none => rw [ha] at q2; exact q2.elim
        | some ρa =>
          rw [ha] at q2
          simp only at q2
          refine ⟨C, ρi, xs[i], ρa, fp, [], hf, hfree, r3, rx, ha, fun σ4 fp4 r4 _ => ⟨C, ρa, hf, ⟨fp4, r4⟩, ?_⟩⟩
          have q3 := wS.mono e3 q2
          cases eb1 : eb ρa with
          | next ρb => rw [eb1] at q3; exact fun σ' H' e' r' => ⟨ρb, e2.trans (e3.trans e'), r', wS.mono e' q3⟩
          | cnt ρb => rw [eb1] at q3; exact fun σ' H' e' r' => ⟨ρb, e2.trans (e3.trans e'), r', wS.mono e' q3⟩
          | brk ρb => rw [eb1] at q3; exact fun σ' H' e' r' => q3 σ' H' e' r'
          | ret tt ρb => rw [eb1] at q3; exact q3
          | exc d ρb => rw [eb1] at q3; exact q3
          | bad => rw [eb1] at q3; exact q3
      · have ei' : i = xs.length := by omega
        subst ei'
        refine .inl ⟨wk.stop H2 e2, ?_⟩
        rw [List.drop_length] at q2
        exact q2 σ2 H2 (Ext.refl _) r2
    · exact q.elim
/-- while .. -/
theorem ss_while {test : Expr} {body : List Stmt} {ec : Env → Out Bool} {eb : Env → SO} {n : Nat} (hp : PassesOwn (model X.prog X.w) X.A X.env X.xe) (hc : PT X test (tTe W Wx ec)) (hb : PSs X body (tS W Wx io eb)) :
    PS X (.While test body [] pos) (tS W Wx io fun ρ => whileGo ec eb n ρ) := by
  refine (ps_while hp hc hb).mono fun D σ H ⟨C, ρ, hf, rel, q⟩ => ?_
  refine ⟨fun m σ' H' => ∃ ρi, Rel W C ρi σ' H' ∧ wS W C Wx (whileGo ec eb m ρi) D H', ⟨n, ρ, rel, q⟩, ?_⟩
  rintro m σ2 H2 ⟨ρi, r2, q2⟩
  cases m with
  | zero => exact q2.elim
  | succ m =>
    refine ⟨C, ρi, r2, ?_⟩
    simp only [whileGo] at q2
    cases ec1 : ec ρi with
    | bad => rw [ec1] at q2; exact q2.elim
    | exc d ρb => rw [ec1] at q2; exact fun cls dx H' e rx r => q2 cls dx σ2 H' e rx r
    | ok b ρb =>
      rw [ec1] at q2
      intro H3 e3 r3
      cases b with
      | false => exact q2 σ2 H3 e3 r3
      | true =>
        simp only [if_true]
        refine ⟨fun σ' H' => ∃ ρi, Rel W C ρi σ' H' ∧ wS W C Wx (whileGo ec eb m ρi) D H', fun σ' H' p' => ⟨m, Nat.lt_succ_self _, p'⟩, C, ρb, hf, r3, ?_⟩
        have q3 := wS.mono e3 q2
        simp only at q3
        cases eb1 : eb ρb with
        | next ρc => rw [eb1] at q3; exact fun σ' H' e' r' => ⟨ρc, r', wS.mono e' q3⟩
        | cnt ρc => rw [eb1] at q3; exact fun σ' H' e' r' => ⟨ρc, r', wS.mono e' q3⟩
        | brk ρc => rw [eb1] at q3; exact fun σ' H' e' r' => q3 σ' H' e' r'
        | ret tt ρc => rw [eb1] at q3; exact q3
        | exc d ρc => rw [eb1] at q3; exact q3
        | bad => rw [eb1] at q3; exact q3
end

/-! ### a def -/
section
variable {W : Wd}
def fixOf : Nat → Env → List V → List (Nat × V)
  | k, .own _ :: as, v :: vs => (k, v) :: fixOf (k + 1) as vs
  | k, _ :: as, _ :: vs => fixOf (k + 1) as vs
  | _, _, _ => []
theorem fixOf_at : ∀ {as : Env} {vs : List V} {k : Nat} {q : Nat × V}, q ∈ fixOf k as vs → k ≤ q.1 ∧ (∃ t, as[q.1 - k]? = some (.own t)) ∧ vs[q.1 - k]? = some q.2
  | [], _, _, _, m => by simp [fixOf] at m
  | s :: as, [], _, _, m => by cases s <;> simp [fixOf] at m
  | s :: as, v :: vs, k, q, m => by
    have rec_ : q ∈ fixOf (k + 1) as vs → k ≤ q.1 ∧ (∃ t, (s :: as)[q.1 - k]? = some (.own t)) ∧ (v :: vs)[q.1 - k]? = some q.2 := fun m => by
      obtain ⟨h1, ⟨t, h2⟩, h3⟩ := fixOf_at m
      have e : q.1 - k = (q.1 - (k + 1)) + 1 := by omega
      exact ⟨by omega, ⟨t, by rw [e]; simpa using h2⟩, by rw [e]; simpa using h3⟩
    cases s with
    | own t =>
      simp only [fixOf] at m
      rcases List.mem_cons.mp m with rfl | m
      · exact ⟨Nat.le_refl _, ⟨t, by simp⟩, by simp⟩
      · exact rec_ m
    | val d => simp only [fixOf] at m; exact rec_ m
    | unb => simp only [fixOf] at m; exact rec_ m
theorem fixOf_mem : ∀ {as : Env} {vs : List V} {k i : Nat} {t : T} {v : V}, as[i]? = some (.own t) → vs[i]? = some v → (k + i, v) ∈ fixOf k as vs
  | [], _, _, _, _, _, h, _ => by simp at h
  | _ :: _, [], _, _, _, _, _, h => by simp at h
  | s :: as, w :: vs, k, 0, t, v, h1, h2 => by simp at h1 h2; subst h1 h2; simp [fixOf]
  | s :: as, w :: vs, k, i + 1, t, v, h1, h2 => by
    have := fixOf_mem (k := k + 1) (i := i) (t := t) (v := v) (by simpa using h1) (by simpa using h2)
    have e : k + 1 + i = k + (i + 1) := by omega
    rw [e] at this
    cases s <;> simp [fixOf, this]
theorem ownsAt_mem : ∀ {as : Env} {k i : Nat} {t : T}, as[i]? = some (.own t) → k + i ∈ ownsAt k as
  | [], _, _, _, h => by simp at h
  | s :: as, k, 0, t, h => by simp at h; subst h; simp [ownsAt]
  | s :: as, k, i + 1, t, h => by
    have := ownsAt_mem (k := k + 1) (i := i) (t := t) (by simpa using h)
    have e : k + 1 + i = k + (i + 1) := by omega
    rw [e] at this
    cases s <;> simp [ownsAt, this]
theorem fin_sl {H H' : Hp} (e : Ext H H') : ∀ {as ρ : Env} {vs : List V} {σ : L2.St} {In fp : List Addr}, SlRs W H as (vs.map some) In → SlRs W H' ρ σ fp → (∀ (i : Nat) (t : T) (v : V), as[i]? = some (Sl.own t) → vs[i]? = some v → σ[i]? = some (some v)) → ∃ fs, SlRs W H' (finOf as ρ) (vs.map some) fs ∧ fs.Sublist fp
  | [], ρ, [], σ, _, fp, _, r, _ => ⟨[], by cases ρ <;> exact .nil, by simp⟩
  | [], ρ, _ :: _, σ, _, fp, h, _, _ => by cases h
  | s :: as, ρ, [], σ, _, fp, h, _, _ => by cases h
  | s :: as, ρ, v :: vs, σ, _, fp, .cons h hs, r, fx => by
    have tl : ∀ {ρ' : Env} {σ' : L2.St} {fp' : List Addr}, SlRs W H' ρ' σ' fp' → (∀ (i : Nat) (t : T) (v : V), as[i]? = some (Sl.own t) → vs[i]? = some v → σ'[i]? = some (some v)) → ∃ fs, SlRs W H' (finOf as ρ') (vs.map some) fs ∧ fs.Sublist fp' := fun r' f' => fin_sl e hs r' f'
    cases r with
    | nil =>
      cases s with
      | own t => have := fx 0 t v rfl rfl; simp at this
      | val d =>
        cases h with
        | val rp =>
          obtain ⟨fs, h1, h2⟩ := tl .nil fun i t w a b => by have := fx (i + 1) t w (by simpa using a) (by simpa using b); simp at this
          have ee : finOf as ([] : Env) = as := by cases as with | nil => rfl | cons a as => cases a <;> rfl
          rw [ee] at h1
          exact ⟨[] ++ fs, .cons (.val (rp.ext e)) h1, by simpa using h2⟩
      | unb =>
        obtain ⟨fs, h1, h2⟩ := tl .nil fun i t w a b => by have := fx (i + 1) t w (by simpa using a) (by simpa using b); simp at this
        have ee : finOf as ([] : Env) = as := by cases as with | nil => rfl | cons a as => cases a <;> rfl
        rw [ee] at h1
        exact ⟨[] ++ fs, .cons .unb h1, by simpa using h2⟩
    | @cons f o ρs σs gp gps hf hr =>
      obtain ⟨fs, h1, h2⟩ := tl hr fun i t w a b => by have := fx (i + 1) t w (by simpa using a) (by simpa using b); simpa using this
      cases s with
      | own t =>
        have := fx 0 t v rfl rfl
        simp at this; subst this
        exact ⟨gp ++ fs, .cons hf h1, List.Sublist.append (List.Sublist.refl _) h2⟩
      | val d =>
        cases h with
        | val rp => exact ⟨[] ++ fs, .cons (.val (rp.ext e)) h1, by simpa using h2.trans (List.sublist_append_right _ _)⟩
      | unb => exact ⟨[] ++ fs, .cons .unb h1, by simpa using h2.trans (List.sublist_append_right _ _)⟩
theorem SlRs.app {H : Hp} : ∀ {a b : Env} {s r : L2.St} {f g : List Addr}, SlRs W H a s f → SlRs W H b r g → SlRs W H (a ++ b) (s ++ r) (f ++ g)
  | _, _, _, _, _, _, .nil, h => h
  | _, _, _, _, _, _, .cons h t, q => by
    have := SlRs.cons h (SlRs.app t q)
    simpa using this
theorem SlRs.unbs {H : Hp} : ∀ n : Nat, SlRs W H (List.replicate n Sl.unb) (List.replicate n none) []
  | 0 => .nil
  | n + 1 => by
    have := SlRs.cons (W := W) (H := H) (s := .unb) (o := none) .unb (SlRs.unbs n)
    simpa [List.replicate_succ] using this
end
section
variable {W : Wd} {P : Program} {w : World} {mg : Str → Option Value} {base : Heap} {k : Nat} {f : Addr} {name qual : Str} {params : Arguments} {body : List Stmt} {scope : Scope} {dV kV doc pm cdv ct oc : Value} {an od : Option Addr} {osl : Array (Option Value)} {N ps : List Str}
/-- a def of the text keeps its promise -/
theorem fnE_of {S : Stat} {R : D → Option Str} {n : Nat} {F : Nat → Env → OutF} {fn : Fn} (lk : W.K.lookup f = some ⟨oc, od, .func (PySem.W.fnOf name qual params body scope dV kV doc pm an cdv ct), osl⟩) (hcd : PySem.W.codeIn W.K cdv qual = true) (FS : FnScope N ps scope) (hnp : fn.np = ps.length) (hnl : fn.nl = N.length)
    (hb : ∀ (A : Around) (outer : List PySem.Env) (s : Shared) (H : Hp) (E : XK) (io : List Nat), Room k A → A.guards = some [] →
      PSs (cxOf (CX P w) P w W.K mg base N qual scope f cdv A outer s H E) body (tS W (fun cls d _ H => E cls d H) io fun ρ => evSs S R F n io fn.kp fn.body ρ)) :
    FnE W P w mg base (k + 1) f (PySem.W.fnOf name qual params body scope dV kV doc pm an cdv ct) ps (evFn S R n F fn) := by
  refine ⟨fun args nb => ?_, fun A outer s H as us vs args In Q E hr hg e0 hbd r sl nd tabs hq => ?_⟩
  · unfold evFn at nb
    split at nb
    · rename_i h; rw [h, hnp]
    · exact absurd rfl nb
  have hlen : args.length = vs.length := by have := sl.length; simpa using this
  unfold evFn at hq
  have hna : args.length = fn.np := Classical.byContradiction fun h => by
    rw [if_neg h] at hq
    exact hq
  rw [if_pos hna] at hq
  have hl : vs.length = ps.length := by rw [← hlen, hna, hnp]
  have KX : W.K.In s.heap := e0.mod.kin.keeps fun b o e => (e0.bs b o e).1
  have lim : s.heap.NoLimit := e0.mod.nolimit.keeps fun b o e => (e0.bs b o e).1
  have hkind : ∀ y ∈ ps.zip us, scope.names.lookup y.1 = some .local ∨ (scope.names.lookup y.1 = some .cell ∧ ((cellsFrom (s.heap.objs.size + 1) scope.names []).lookup y.1).isSome = true) := by
    rintro ⟨nm, u⟩ my
    exact (FS.par nm (List.of_mem_zip my).1).imp_right fun q => ⟨q, PySem.W.cellsFrom_some _ _ _ (.inl q)⟩
  refine codeAny_call_function hr.depth (KX _ _ lk) rfl FS.co FS.gen rfl (PySem.W.codeRec_of KX hcd) (hbd _ _ _ _ (wpAny_newFunctionEnv_cells FS.kind hkind fun env he s1 ic => ?_))
  subst he
  refine ⟨lim.keeps ic.toInCall.keep, codeAny_func ?_⟩
  have I : Inv (cxOf (CX P w) P w W.K mg base N qual scope f cdv A outer s H E) [] (start N vs) H s1 := inv_start FS hr.hd e0 hl r ic
  let C : Fx := ⟨H, In, fixOf 0 args vs⟩
  have hpl : ps.length ≤ N.length := by have := congrArg List.length FS.pre; rw [List.length_take] at this; omega
  have sl0 : SlRs W H (args ++ List.replicate (fn.nl - fn.np) .unb) (start N vs) In := by
    unfold L2.start
    have := SlRs.app sl (SlRs.unbs (W := W) (H := H) (N.length - vs.length))
    rw [hnl, hnp, ← hl]
    simpa using this
  have hfix : ∀ p ∈ C.fix, (start N vs)[p.1]? = some (some p.2) := fun p m => by
    obtain ⟨_, _, h3⟩ := fixOf_at m
    rw [Nat.sub_zero] at h3
    unfold L2.start
    have hlt : p.1 < (vs.map some).length := by
      rw [List.length_map]
      exact (List.getElem?_eq_some_iff.mp h3).1
    rw [List.getElem?_append_left hlt, List.getElem?_map, h3]; rfl
  have rel : Rel W C (args ++ List.replicate (fn.nl - fn.np) .unb) (start N vs) H := ⟨In, sl0, by simpa using nd, fun a m => .inl (by simpa using m), fun _ _ e _ _ => e, fun _ e => e, hfix, tabs⟩
  have hfi : FixIn C (ownsAt 0 args) := fun p m => by
    obtain ⟨_, ⟨t, h2⟩, _⟩ := fixOf_at m
    rw [Nat.sub_zero] at h2
    have := ownsAt_mem (k := 0) h2
    simpa using this
  have post : ∀ {ρ' : Env} {σ' : L2.St} {H' : Hp} {fp ft : List Addr}, Ext H H' → RelP W C ρ' σ' H' fp ft → PostC W vs H In H' (finOf args ρ') ft := fun {ρ' σ' H' fp ft} e' r' => by
    obtain ⟨fs, h1, h2⟩ := fin_sl e' sl r'.slots fun i t v a b => by
      have := r'.fix (0 + i, v) (fixOf_mem (k := 0) a b)
      simpa using this
    obtain ⟨n1, n2, n3⟩ := List.nodup_append.mp r'.nd
    refine ⟨e', r'.frame, r'.dom, r'.tabs, fs, h1, List.nodup_append.mpr ⟨n1.sublist h2, n2, fun a m b m' => n3 a (h2.subset m) b m'⟩, fun a m => ?_⟩
    rcases List.mem_append.mp m with m | m
    · exact r'.own a (by simp [h2.subset m])
    · exact r'.own a (by simp [m])
  refine wpAny_mono ((hb A outer s H E (ownsAt 0 args) (hr.mono (Nat.le_succ _)) hg).run [] s1 (start N vs) H { nx := fun _ H' => Q .non H', rt := Q } I ⟨C, _, hfi, rel, ?_⟩) (fun fl s' hs => ?_) fun e s' hs => hs
  · show wS W C (fun cls d _ H => E cls d H) (evSs S R F n (ownsAt 0 args) fn.kp fn.body (args ++ List.replicate (fn.nl - fn.np) .unb)) _ H
    cases ev : evSs S R F n (ownsAt 0 args) fn.kp fn.body (args ++ List.replicate (fn.nl - fn.np) .unb) with
    | bad => rw [ev] at hq; exact hq.elim
    | brk ρ' => rw [ev] at hq; exact hq.elim
    | cnt ρ' => rw [ev] at hq; exact hq.elim
    | next ρ' =>
      rw [ev] at hq
      exact fun σ' H' e' ⟨fp, r'⟩ => hq .non H' [] (.fr .non) (post e' r')
    | ret t ρ' =>
      rw [ev] at hq
      exact fun v σ' H' e' ⟨fp, ft, ow, r'⟩ => hq v H' ft ow (post e' r')
    | exc d ρ' =>
      rw [ev] at hq
      exact fun cls dx σ' H' e' rx ⟨fp, r'⟩ => hq cls dx H' rx (post e' r')
  · have done : ∀ {σ' : L2.St} {H' : Hp} {v : V} {u : Value}, Inv (cxOf (CX P w) P w W.K mg base N qual scope f cdv A outer s H E) [] σ' H' s' → RelV v u → Q v H' → CE outer P w H s Q u s' :=
      fun {σ' H' v u} J rv q => ⟨v, H', J.os, J.bare, J.base, J.hok, rv, q⟩
    cases fl with
    | next => obtain ⟨σ', H', J, q⟩ := hs; exact done (v := V.non) (u := Value.none) J rfl q
    | ret u => obtain ⟨v, σ', H', J, rv, q⟩ := hs; exact done J rv q
    | brk => obtain ⟨_, _, _, q⟩ := hs; exact q.elim
    | cont => obtain ⟨_, _, _, q⟩ := hs; exact q.elim
end
end Eg
set_option Elab.async false
set_option linter.all false
set_option maxRecDepth 100000
set_option maxHeartbeats 4000000
/-! the engine: a law's end -/
namespace Eg
open PySem PySem.Spec PyProof.Rows L2

section
variable {W : Wd} {P : Program} {w : World} {mg mb : Str → Option Value} {k : Nat} {fa a : Addr} {fd : FuncData} {x : Str} {fl : Env → OutF} {s1 : Shared} {vs : List Value} {ns : List Int}
theorem reps_ints {H : Hp} : ∀ ns : List Int, Reps W H (ns.map D.int) (ns.map V.int)
  | [] => .nil
  | n :: r => .cons (.int n) (reps_ints r)
/-- the script alone is tracked, or nothing -/
theorem law_heap {H : Hp} (KX : W.K.In s1.heap) (hT : W.T = []) (hns : s1.heap.Ns mainGlobals mg) (hb : s1.heap.Ns builtinsNs mb) (hbb : ∀ x : Str, x ≠ "__name__" → mb x = bootBuiltins x) (hlim : s1.heap.NoLimit) (hg : s1.gens = #[])
    (hr : Room k callerA) (F : ∀ base : Heap, W.K.In base → base.Ns mainGlobals mg → FnE W P w mg base k fa fd [x] fl) (hbind : ∀ (s : Shared) (u : Value), BindsTo s fd ⟨[u], []⟩ [(x, u)]) (hv : ∃ fin, fl [.val (.lst (ns.map .int))] = .ret (.fr (.bl true)) fin)
    (hobj : s1.heap.get? a = some { cls := .type "list", data := .seq vs.toArray }) (sq : SqF W.K H a (ns.map V.int)) (hok : HOk P w H s1.heap) (one : ∀ b, H b ≠ none → b = a ∧ W.K.lookup a = none ∧ ∃ o u, H b = some (.frz o u)) :
    codeAny (model P w) callerA (.call (.ref fa) ⟨[.ref a], []⟩) (fun r s' => r = .ok (.ret (.bool true)) ∧ OldK s1.heap s'.heap ∧ s'.os = s1.os ∧ AllBare s'.gens) s1 := by
  have free : ∀ {b : Addr} {o : Obj}, s1.heap.get? b = some o → b ≠ a → H b = none := fun {b o} _ ne => Classical.byContradiction fun z => ne (one b z).1
  have dictF : ∀ {b : Addr} {o : Obj} {es : Array DictEntry} {ep : Nat}, s1.heap.get? b = some o → o.data = .dict es ep → H b = none := fun {b o es ep} e d => free e fun z => by
    rw [z, hobj] at e
    cases e; cases d
  have up : ∀ {b : Addr} {m : Str → Option Value}, s1.heap.Ns b m → (hidT s1.heap H).Ns b m := fun {b m} q => by
    obtain ⟨o, es, ep, e, d, r⟩ := q
    exact ⟨o, es, ep, hidT_get e (dictF e d), d, r⟩
  have kin : W.K.In (hidT s1.heap H) := fun b o e => hidT_get (KX b o e) <| Classical.byContradiction fun z => by
    obtain ⟨ez, ek, _⟩ := one b z
    rw [ez, ek] at e; cases e
  obtain ⟨mc, c1, c2⟩ := hlim
  have mod : Mod W.K mg (hidT s1.heap H) := ⟨kin, up hns, ⟨mb, up hb, hbb⟩, mc, up c1, c2⟩
  have env0 : Env0 P w W.K mg (hidT s1.heap H) callerA [] s1 H := ⟨rfl, mod, fun _ _ e => of_hidT e, Nat.le_of_eq (hidT_size _ _), trivial, fun _ m => absurd (show _ ∈ ([] : List Addr) from m) (by simp), hok, .of_eq hg⟩
  obtain ⟨fin, efl⟩ := hv
  have sl : SlRs W H [.val (.lst (ns.map .int))] ([V.ref a].map some) [] := .cons (.val (.lst sq (reps_ints ns))) .nil
  have want : wF W [.ref a] H [] (fl [.val (.lst (ns.map .int))]) (fun v _ => v = .bl true) (fun _ _ _ => False) := by
    rw [efl]
    intro v H' ft ow _
    obtain ⟨rp, _⟩ := own_fr ow
    cases rp; rfl
  refine codeAny_mono ((F _ kin (up hns)).run callerA [] s1 H ⟨[.ref a], []⟩ [.ref a] [.ref a] _ [] _ _ hr rfl env0 (hbind s1 (.ref a)) (.cons rfl .nil) sl (by simp) (by rw [hT]; exact fun _ m => nomatch m) want) fun r s' h => ?_
  cases r with
  | error e =>
    obtain ⟨_, _, _, _, _, _, _, _, _, _, _, _, z⟩ := h
    exact z.elim
  | ok f =>
    cases f with
    | ret u =>
      obtain ⟨v, H', eos, bare, un, hok', rv, ev⟩ := h
      have ev : v = .bl true := ev
      subst ev
      cases (show u = Value.bool true from rv)
      refine ⟨rfl, OldK.of_keep fun b o e => ?_, eos, bare⟩
      by_cases hz : H b = none
      · exact un.keep b o e hz (fun z => absurd (show b ∈ ([] : List Addr) from z) (by simp)) (by simp)
      · obtain ⟨_, _, ob, uu, ez⟩ := one b hz
        have e1 := (hok b _ ez).1
        have e2 := (hok' b _ (un.frzs b ob uu ez)).1
        rw [e] at e1; cases e1
        exact e2
    | next => exact h.elim
    | brk => exact h.elim
    | cont => exact h.elim
theorem law_callE (KX : W.K.In s1.heap) (hT : W.T = []) (hns : s1.heap.Ns mainGlobals mg) (hb : s1.heap.Ns builtinsNs mb) (hbb : ∀ x : Str, x ≠ "__name__" → mb x = bootBuiltins x) (hlim : s1.heap.NoLimit) (hg : s1.gens = #[])
    (hobj : s1.heap.get? a = some { cls := .type "list", data := .seq vs.toArray }) (hi : IntsAre vs ns) (hl : ns.length ≤ sizeLine) (hr : Room k callerA) (F : ∀ base : Heap, W.K.In base → base.Ns mainGlobals mg → FnE W P w mg base k fa fd [x] fl)
    (hbind : ∀ (s : Shared) (u : Value), BindsTo s fd ⟨[u], []⟩ [(x, u)]) (hv : ∃ fin, fl [.val (.lst (ns.map .int))] = .ret (.fr (.bl true)) fin) :
    codeAny (model P w) callerA (.call (.ref fa) ⟨[.ref a], []⟩) (fun r s' => r = .ok (.ret (.bool true)) ∧ OldK s1.heap s'.heap ∧ s'.os = s1.os ∧ AllBare s'.gens) s1 := by
  have rv := vals_ints hi
  have len := hi.length
  cases hk : W.K.lookup a with
  | some o =>
    have e := KX a o hk
    rw [hobj] at e; cases e
    exact law_heap (H := fun _ => none) KX hT hns hb hbb hlim hg hr F hbind hv hobj (.inr ⟨_, vs.toArray, _, hk, rfl, rfl, rfl, by rw [List.size_toArray, len]; exact hl, by simpa using rv⟩) (fun b u z => by cases (show (none : Option HO) = some u from z)) fun b z => absurd rfl z
  | none =>
    have hat : upd (fun _ => none) a (HO.frz { cls := .type "list", data := .seq vs.toArray } (.lst (ns.map V.int))) a = some (.frz { cls := .type "list", data := .seq vs.toArray } (.lst (ns.map V.int))) := upd_same
    refine law_heap (H := upd (fun _ => none) a (.frz { cls := .type "list", data := .seq vs.toArray } (.lst (ns.map V.int)))) KX hT hns hb hbb hlim hg hr F hbind hv hobj (.inl ⟨_, hat⟩) (fun b u z => ?_) fun b z => ?_
    · by_cases hz : b = a
      · subst hz
        rw [upd_same] at z; cases z
        exact ⟨hobj, by rw [List.length_map]; exact hl, vs, _, rv, hobj⟩
      · rw [upd_ne hz] at z; cases z
    · by_cases hz : b = a
      · subst hz
        exact ⟨rfl, hk, _, _, upd_same⟩
      · rw [upd_ne hz] at z; exact absurd rfl z
end
section
variable {l : PySem.W.OpenLaw} {n k : Nat} {q : Program} {loose : List Str} {XP : (Str → Option Value) → Heap → Prop} {YP : World → Heap → Prop} {d : DefRec} {x : Str}
/-- the law walked: what is wanted of the written part, and the value that the evaluator tells -/
theorem walk_ofEg (hn : l.most = some n) (hn2 : n ≤ sizeLine) (hdf : d.params.defaults = []) (hr : Room k callerA)
    (F : ∀ (w : World) (mg : Str → Option Value) (fa : Addr) (h : Heap), YP w h → h.Ns mainGlobals mg → mg d.name = some (.ref fa) →
      ∃ (W : Wd) (fd : FuncData) (fl : Env → OutF), W.K.In h ∧ W.T = [] ∧ (∀ (s : Shared) (u : Value), BindsTo s fd ⟨[u], []⟩ [(x, u)]) ∧ (∀ ns : List Int, ns.length ≤ n → ∃ fin, fl [.val (.lst (ns.map .int))] = .ret (.fr (.bl true)) fin) ∧
        ∀ base : Heap, W.K.In base → base.Ns mainGlobals mg → FnE W l.prog w mg base k fa fd [x] fl) :
    PySem.W.WalkO q loose XP YP l.row.toRowW d [] (fun f vs => PySem.call f vs) := by
  refine Att.attach_call hn hdf fun w s0 s1 mg mb fa o pm cd doc a vs ns G Y ho hd hcd hmg hobj hints hlen hg => ?_
  obtain ⟨W, fd, fl, KX, hT, hb, hv, hF⟩ := F w mg fa _ Y G.T.g hmg
  exact law_callE KX hT G.T.g G.T.b G.T.builtins G.T.nolimit hg hobj hints (Nat.le_trans hlen hn2) hr hF hb (hv ns hlen)
end
end Eg
set_option Elab.async false
set_option linter.all false
set_option maxRecDepth 100000
set_option maxHeartbeats 4000000
/-! the engine: expressions of the text, compiled -/
namespace Eg
open PySem PySem.Spec PyProof.Rows L2

/-- what a global's name stands for -/
inductive Gk where
  | fn (f : Nat)
  | exc (c : Nat)
  | cls (c : Nat)
/-- the module's names; the attributes' names -/
structure Gt where
  gs : List (Str × Gk)
  nm : List Str
  ow : List (List Bool) := []
def bls : List Str := ["len", "int", "abs", "list", "tuple", "repr", "all", "any", "sum", "max", "min", "isinstance", "range", "enumerate", "zip", "bool", "str", "dict", "ValueError", "super", "sorted", "set"]
def blOk (gt : Gt) (ct : Ct) (x : Str) : Bool := (match ct.vs.lookup x with
  | some .globalImplicit => true
  | _ => false) && bls.contains x && (gt.gs.lookup x).isNone
def glOf (gt : Gt) (ct : Ct) (x : Str) : Option Gk := match ct.vs.lookup x with
  | some .globalImplicit => gt.gs.lookup x
  | _ => none
def plainNm (x : Str) : Bool := !(x == ("__debug__" : Str)) && !(x == ("__classdict__" : Str))
def varE (ct : Ct) (x : Str) : Option Nat := if isVis ct.vs x && plainNm x then ixOf x ct.N else none
def biOf (x : Str) (n : Nat) : Option Bi :=
  if x = "len" ∧ n = 1 then some .len else if x = "int" ∧ n = 1 then some .int else if x = "abs" ∧ n = 1 then some .abs else if x = "list" ∧ n = 1 then some .list
  else if x = "tuple" ∧ n = 1 then some .tuple else if x = "repr" ∧ n = 1 then some .repr else if x = "all" ∧ n = 1 then some .all else if x = "any" ∧ n = 1 then some .any else if x = "sum" ∧ n = 1 then some .sum
  else if x = "max" ∧ n = 2 then some .max2 else if x = "min" ∧ n = 2 then some .min2 else none
def tyOf (x : Str) : Option String :=
  if x = "int" then some "int" else if x = "str" then some "str" else if x = "bool" then some "bool" else if x = "tuple" then some "tuple" else if x = "list" then some "list" else if x = "dict" then some "dict" else if x = "ValueError" then some "ValueError" else none
/-- isinstance's second argument -/
def clsOf (gt : Gt) (ct : Ct) : Expr → Option (Nat ⊕ String)
  | .Name x _ => if plainNm x then match glOf gt ct x with
    | some (.exc c) => some (.inl c)
    | some (.cls c) => some (.inl c)
    | _ => if blOk gt ct x then (tyOf x).map .inr else none
    else none
  | _ => none
/-- tests that ask the value's truth -/
def truthOk : Expr → Bool
  | .Name _ _ => true
  | .Call _ _ _ _ => true
  | .Attribute _ _ _ => true
  | .Subscript _ _ _ => true
  | .BinOp _ _ _ _ => true
  | .ListComp _ _ _ _ => true
  | .Constant _ _ _ => true
  | _ => false
def noSlice : Expr → Bool
  | .Slice _ _ _ _ => false
  | _ => true
def noSetE : Expr → Bool
  | .Set _ _ _ => false
  | _ => true
/-- what an attribute may be asked of -/
def attrOk : Expr → Bool
  | .Name _ _ => true
  | .Attribute _ _ _ => true
  | .Subscript _ _ _ => true
  | .Call (.Name id _) [] [] _ => id != ("super" : Str)
  | .Call (.Name _ _) (_ :: _) _ _ => true
  | .Call (.Attribute _ _ _) _ _ _ => true
  | _ => false
def keysOf : List (Option Expr) → Option (List Key)
  | [] => some []
  | some (.Constant (.int j) _ _) :: r => (keysOf r).map fun ks => .inl j :: ks
  | some (.Constant (.str y) _ _) :: r => (keysOf r).map fun ks => .inr y :: ks
  | _ => none
/-- a comprehension's block: its names with their places -/
def ownOf (N : List Str) (scope : Scope) : List (Str × Nat) := scope.names.filterMap fun y => match y.2 with
  | .local => (ixOf y.1 N).map fun i => (y.1, i)
  | .cell => (ixOf y.1 N).map fun i => (y.1, i)
  | _ => none
def blkCt (ct : Ct) (scope : Scope) : Ct := ⟨ct.N, scope.names.map (fun (n, k) => if (k == .free && ct.vs.lookup n == some .cell) then (n, .cell) else (n, k)), scope.names⟩

mutual
def cE (gt : Gt) (ct : Ct) : Nat → Expr → Option Ex
  | n + 1, e => match e with
    | .Constant (.int i) _ _ => some (.cst (.int i))
    | .Constant (.bool b) _ _ => some (.cst (.bl b))
    | .Constant .none _ _ => some (.cst .non)
    | .Constant (.str s) _ _ => some (.cst (.str s))
    | .Name x _ => (varE ct x).map .var
    | .BinOp a op b _ => (cE gt ct n a).bind fun a' => (cE gt ct n b).map fun b' => .bin op a' b'
    | .UnaryOp .USub a _ => (cE gt ct n a).map .neg
    | .UnaryOp .Not a _ => (cE gt ct n a).map .not
    | .Compare a [op] [b] _ => if noSetE b then (cE gt ct n a).bind fun a' => (cE gt ct n b).map fun b' => .cmp op a' b' else none
    | .BoolOp _ [a] _ => (cE gt ct n a).map fun a' => .and (.cst (.bl true)) a'
    | .BoolOp .And (a :: b :: r) p => (cE gt ct n a).bind fun a' => (cE gt ct n (.BoolOp .And (b :: r) p)).map fun b' => .and a' b'
    | .BoolOp .Or (a :: b :: r) p => (cE gt ct n a).bind fun a' => (cE gt ct n (.BoolOp .Or (b :: r) p)).map fun b' => .or a' b'
    | .IfExp c a b _ => (cC gt ct n c).bind fun c' => (cE gt ct n a).bind fun a' => (cE gt ct n b).map fun b' => .ite c' a' b'
    | .Tuple es _ _ => (cEs gt ct n es).map .tup
    | .List es _ => (cEs gt ct n es).map .lst
    | .Dict [] [] _ => some (.dic [] .nil)
    | .Dict keys values _ => if keys.length = values.length ∧ keys.length ≤ 15 ∧ keys ≠ [] then (keysOf keys).bind fun ks => (cEs gt ct n values).map fun vs => .dic ks vs else none
    | .Attribute a f _ => if attrOk a then (cE gt ct n a).bind fun a' => (ixOf f gt.nm).map fun i => .fld a' i else none
    | .Subscript a (.Slice lo hi none _) _ => (cE gt ct n a).bind fun a' => (cP gt ct n lo).bind fun l => (cP gt ct n hi).map fun h => .sl a' l h
    | .Subscript a i _ => if noSlice i then (cE gt ct n a).bind fun a' => (cE gt ct n i).map fun i' => .ix a' i' else none
    | .ListComp elt [⟨tg, it, ifs, 0⟩] scope _ => if noSetE it && blkC ct.N ⟨.function, ct.vs, false, false, []⟩ scope (ownOf ct.N scope) then
        (cIt gt ct n tg it).bind fun it' => (cTg (blkCt ct scope) n tg).bind fun tg' => (cIfs gt (blkCt ct scope) n ifs).bind fun c' => (cE gt (blkCt ct scope) n elt).map fun e' => .comp e' tg' it' c' ((ownOf ct.N scope).map (·.2)) else none
    | .Call (.Name x _) args [] _ => match glOf gt ct x with
      | some (.fn f) => if plainNm x then (cAs gt ct n (gt.ow.getD f []) args).map fun as => .call f as else none
      | some (.exc c) => if plainNm x then match args with
        | [a] => (cE gt ct n a).map fun a' => .mkexc c a'
        | _ => none
        else none
      | some (.cls _) => none
      | none => if blOk gt ct x then
          if x = "isinstance" then match args with
            | [a, c] => (clsOf gt ct c).bind fun c' => (cE gt ct n a).map fun a' => .isi a' c'
            | _ => none
          else match lrOf gt ct x args with
            | some it => (cR gt ct n it).map .lrng
            | none => match args with
              | [] => none
              | a :: r => (biOf x (a :: r).length).bind fun b => (cEs gt ct n (a :: r)).map fun xs => .bi b xs
        else none
    | _ => none
  | 0, _ => none
/-- list(range(..))'s range -/
def lrOf (gt : Gt) (ct : Ct) : Str → List Expr → Option (List Expr)
  | x, [.Call (.Name r _) as [] _] => if x = "list" ∧ r = "range" ∧ blOk gt ct r then some as else none
  | _, _ => none
def cR (gt : Gt) (ct : Ct) : Nat → List Expr → Option It
  | n + 1, [a] => (cE gt ct n a).map .rng1
  | n + 1, [a, b] => (cE gt ct n a).bind fun a' => (cE gt ct n b).map fun b' => .rng2 a' b'
  | _, _ => none
def cP (gt : Gt) (ct : Ct) : Nat → Option Expr → Option Ex
  | _, none => some .none
  | n + 1, some e => (cE gt ct n e).bind fun e' => if noneE e' then none else some e'
  | _, _ => none
def cC (gt : Gt) (ct : Ct) : Nat → Expr → Option Cn
  | n + 1, e => match e with
    | .UnaryOp .Not a _ => (cC gt ct n a).map .not
    | .BoolOp _ [a] _ => cC gt ct n a
    | .BoolOp .And (a :: b :: r) p => (cC gt ct n a).bind fun a' => (cC gt ct n (.BoolOp .And (b :: r) p)).map fun b' => .and a' b'
    | .BoolOp .Or (a :: b :: r) p => (cC gt ct n a).bind fun a' => (cC gt ct n (.BoolOp .Or (b :: r) p)).map fun b' => .or a' b'
    | .Compare a [op] [b] _ => if noSetE b then (cE gt ct n a).bind fun a' => (cE gt ct n b).map fun b' => .ex (.cmp op a' b') else none
    | e => if truthOk e then (cE gt ct n e).map .ex else none
  | 0, _ => none
def cIfs (gt : Gt) (ct : Ct) : Nat → List Expr → Option Cn
  | _, [] => some .tt
  | n + 1, [c] => cC gt ct n c
  | _, _ => none
def cEs (gt : Gt) (ct : Ct) : Nat → List Expr → Option Exs
  | _, [] => some .nil
  | n + 1, e :: es => if isStar e then none else (cE gt ct n e).bind fun e' => (cEs gt ct n es).map fun r => .cons false e' r
  | _, _ => none
def cAs (gt : Gt) (ct : Ct) : Nat → List Bool → List Expr → Option Exs
  | _, _, [] => some .nil
  | n + 1, o, e :: es => if isStar e then none else (cE gt ct n e).bind fun e' => (cAs gt ct n o.tail es).map fun r => .cons (!o.headD false) e' r
  | _, _, _ => none
def cIt (gt : Gt) (ct : Ct) : Nat → Expr → Expr → Option It
  | n + 1, tg, it => match it with
    | .Call (.Name x _) args [] _ => if blOk gt ct x && x == "range" then cR gt ct n args
        else if blOk gt ct x && x == "enumerate" then match tg, args with
          | .Tuple _ _ _, [a] => if isStar a then none else (cE gt ct n a).map .enum
          | _, _ => none
        else if blOk gt ct x && x == "zip" then match tg, args with
          | .Tuple _ _ _, [a, b] => if isStar a || isStar b then none else (cE gt ct n a).bind fun a' => (cE gt ct n b).map fun b' => .zip2 a' b'
          | _, _ => none
        else (cE gt ct n it).map .seq
    | it => (cE gt ct n it).map .seq
  | 0, _, _ => none
end
end Eg
set_option Elab.async false
set_option linter.all false
set_option maxRecDepth 100000
set_option maxHeartbeats 4000000
/-! the engine: what is compiled is what runs (expressions) -/
namespace Eg
open PySem PySem.Spec PyProof.Rows L2

def nmOf (gt : Gt) (n : Nat) : Str := gt.nm[n]?.getD ""
structure GOk (W : Wd) (X : Cx) (S : Stat) (F : Nat → Env → OutF) (gt : Gt) : Prop where
  fn : ∀ x f, gt.gs.lookup x = some (.fn f) → ∃ fa, X.mg x = some (.ref fa) ∧ FnAt W X F f fa
  exc : ∀ x c, gt.gs.lookup x = some (.exc c) → X.mg x = some (.ref (W.cA c)) ∧ XF X.prog X.K (W.cA c)
  cls : ∀ x c, gt.gs.lookup x = some (.cls c) → X.mg x = some (.ref (W.cA c))
  sup : X.mg "super" = none
  bl : ∀ x, bls.contains x = true → gt.gs.lookup x = none → X.mg x = none
  wok : WOk W S
  fld : FldOk W S (nmOf gt)
  prop : PropAt W X S F (nmOf gt)
  room : X.A.depth + 1 < recursionLimit
  sys : SysOk X.K
section
variable {W : Wd} {Wx : WX} {X : Cx} {S : Stat} {F : Nat → Env → OutF} {gt : Gt} {ct : Ct} {pos p : Pos}
theorem GOk.blk {s : Shared} {H : Hp} {C : Addr} {cl : List (Str × Addr)} {fp : List Addr} {scope : Scope} (G : GOk W X S F gt) : GOk W (X.blk s H scope (compEnvC scope cl C X.env) fp) S F gt :=
  ⟨fun x f h => let ⟨fa, h1, h2⟩ := G.fn x f h; ⟨fa, h1, ⟨h2.ok, h2.kp⟩⟩, G.exc, G.cls, G.sup, G.bl, G.wok, G.fld, ⟨fun c n f h => let ⟨pa, ga, h1, h2, h3⟩ := G.prop.at_ c n f h; ⟨pa, ga, h1, h2, ⟨h3.ok, h3.kp⟩⟩⟩, G.room, G.sys⟩
/-- a compiled expression -/
structure Sd (W : Wd) (Wx : WX) (X : Cx) (S : Stat) (F : Nat → Env → OutF) (e : Expr) (ir : Ex) : Prop where
  pe : PE X e (tE W Wx fun ρ => evE S reprD F ir ρ)
  nv : ∀ i, varOf ir = some i → ∃ x q, e = .Name x q ∧ X.N[i]? = some x ∧ Vis X.env.scope x ∧ (x == ("__debug__" : Str)) = false ∧ (x == ("__classdict__" : Str)) = false
  ns : isStar e = false
theorem Sd.d {e : Expr} {ir : Ex} (h : Sd W Wx X S F e ir) : PE X e (tD W Wx fun ρ => freezeO (evE S reprD F ir ρ)) := pe_frz h.pe
theorem Sd.look {e : Expr} {ir : Ex} (h : Sd W Wx X S F e ir) : PE X e (tBo W Wx fun ρ => lookO ir ρ (evE S reprD F ir ρ)) := by
  unfold lookO
  cases hv : varOf ir with
  | none => exact pe_look h.d
  | some i =>
    obtain ⟨x, q, rfl, h1, h2, h3, h4⟩ := h.nv i hv
    exact sb_bvar h1 h2 h3 h4
theorem var_ok {x : Str} {i : Nat} (ok : CtOk ct X) (h : varE ct x = some i) : X.N[i]? = some x ∧ Vis X.env.scope x ∧ (x == ("__debug__" : Str)) = false ∧ (x == ("__classdict__" : Str)) = false := by
  unfold varE at h
  split at h
  · rename_i hc
    rw [Bool.and_eq_true] at hc
    have hp := hc.2
    unfold plainNm at hp
    simp only [Bool.and_eq_true, Bool.not_eq_true'] at hp
    exact ⟨by rw [ok.N]; exact ixOf_get h, isVis_ok (by rw [ok.vs]; exact hc.1), hp.1, hp.2⟩
  · cases h
theorem bl_ok {x : Str} (G : GOk W X S F gt) (ok : CtOk ct X) (h : blOk gt ct x = true) : Gl X x ∧ X.mg x = none ∧ bls.contains x = true := by
  unfold blOk at h
  simp only [Bool.and_eq_true] at h
  obtain ⟨⟨h1, h2⟩, h3⟩ := h
  refine ⟨?_, G.bl x h2 (by simpa using h3), h2⟩
  show X.env.scope.names.lookup x = _
  rw [ok.vs]
  split at h1
  · assumption
  · cases h1
theorem gl_ok {x : Str} {k : Gk} (ok : CtOk ct X) (h : glOf gt ct x = some k) : Gl X x ∧ gt.gs.lookup x = some k := by
  unfold glOf at h
  split at h
  · rename_i e
    refine ⟨?_, h⟩
    show X.env.scope.names.lookup x = _
    rw [ok.vs]; exact e
  · cases h
theorem plain_db {x : Str} (h : plainNm x = true) : (x == ("__debug__" : Str)) = false := by
  unfold plainNm at h
  simp only [Bool.and_eq_true, Bool.not_eq_true'] at h
  exact h.1
theorem truth_is {e : Expr} (h : truthOk e = true) : ∀ whole, isTrue e X.env whole = (do let v ← whole; standAt e.pos; holding [v] (truthy v)) := by
  cases e <;> first | (intro _; rfl) | cases h
theorem attr_base {e : Expr} {f : Str} (h : attrOk e = true) : attributeBase e f X.env (eval e X.env) = eval e X.env := by
  unfold attrOk at h
  split at h
  · rfl
  · rfl
  · rfl
  · exact abase_call h
  · rfl
  · rfl
  · cases h
theorem nset {e : Expr} (h : noSetE e = true) : ∀ elts k q, e ≠ .Set elts k q := fun _ _ _ z => by subst z; cases h
theorem noslice_ix {e : Expr} (h : noSlice e = true) : PlainIx e := by
  intro o i
  cases e <;> first | rfl | cases h
theorem keys_pd {keys : List (Option Expr)} {ks : List Key} (h : keysOf keys = some ks) : keys.all (·.isSome) = true ∧ ks.length = keys.length := by
  induction keys generalizing ks with
  | nil => simp [keysOf] at h; subst h; exact ⟨rfl, rfl⟩
  | cons k r ih =>
    unfold keysOf at h
    split at h
    · cases ‹_ :: _ = _›
    · rename_i e; cases e
      obtain ⟨ks', h1, rfl⟩ := Option.map_eq_some_iff.mp h
      obtain ⟨h2, h3⟩ := ih h1
      exact ⟨by simp [h2], by simp [h3]⟩
    · rename_i e; cases e
      obtain ⟨ks', h1, rfl⟩ := Option.map_eq_some_iff.mp h
      obtain ⟨h2, h3⟩ := ih h1
      exact ⟨by simp [h2], by simp [h3]⟩
    · cases h
/-- the built-in functions -/
theorem bi_ok {x : Str} {n : Nat} {b : Bi} {e : Expr} {es : List Expr} (g : GX W Wx X) (sys : SysOk X.K) (hg : Gl X x) (hm : X.mg x = none) (h : biOf x n = some b) (hs : ((e :: es).all fun e => !isStar e) = true) :
    ∃ f, CallD W X f (biD reprD b) ∧ ∀ {r : List V → Hp → VK → Prop} {t : TA}, CallR X f r → PA X (e :: es) t → PE X (.Call (.Name x p) (e :: es) [] pos) (tCB r t) := by
  simp only [List.all_cons, Bool.and_eq_true, Bool.not_eq_true'] at hs
  have s1 := plain_star (es := es) (env := X.env) (isStar_ne hs.1)
  have s2 := nostar_any (pos := pos) (env := X.env) hs.2
  unfold biOf at h
  split at h
  · rename_i z; obtain ⟨rfl, _⟩ := z; cases h
    exact ⟨_, c_len g.hK, fun hc ha => pe_callB hc hg hm (by decide +kernel) ha (by decide) (by decide) s1 s2⟩
  split at h
  · rename_i z; obtain ⟨rfl, _⟩ := z; cases h
    exact ⟨_, c_int, fun hc ha => pe_callTy hc hg hm (by decide +kernel) ha (by decide) (by decide) s1 s2⟩
  split at h
  · rename_i z; obtain ⟨rfl, _⟩ := z; cases h
    exact ⟨_, c_abs, fun hc ha => pe_callB hc hg hm (by decide +kernel) ha (by decide) (by decide) s1 s2⟩
  split at h
  · rename_i z; obtain ⟨rfl, _⟩ := z; cases h
    exact ⟨_, c_list g.hK, fun hc ha => pe_callTy hc hg hm (by decide +kernel) ha (by decide) (by decide) s1 s2⟩
  split at h
  · rename_i z; obtain ⟨rfl, _⟩ := z; cases h
    exact ⟨_, c_tuple g.hK, fun hc ha => pe_callTy hc hg hm (by decide +kernel) ha (by decide) (by decide) s1 s2⟩
  split at h
  · rename_i z; obtain ⟨rfl, _⟩ := z; cases h
    exact ⟨_, c_repr g sys, fun hc ha => pe_callB hc hg hm (by decide +kernel) ha (by decide) (by decide) s1 s2⟩
  split at h
  · rename_i z; obtain ⟨rfl, _⟩ := z; cases h
    exact ⟨_, c_all g.hK g.calm, fun hc ha => pe_callB hc hg hm (by decide +kernel) ha (by decide) (by decide) s1 s2⟩
  split at h
  · rename_i z; obtain ⟨rfl, _⟩ := z; cases h
    exact ⟨_, c_any g.hK g.calm, fun hc ha => pe_callB hc hg hm (by decide +kernel) ha (by decide) (by decide) s1 s2⟩
  split at h
  · rename_i z; obtain ⟨rfl, _⟩ := z; cases h
    exact ⟨_, c_sum g.hK g.calm, fun hc ha => pe_callB hc hg hm (by decide +kernel) ha (by decide) (by decide) s1 s2⟩
  split at h
  · rename_i z; obtain ⟨rfl, _⟩ := z; cases h
    exact ⟨_, c_max2 g.calm, fun hc ha => pe_callB hc hg hm (by decide +kernel) ha (by decide) (by decide) s1 s2⟩
  split at h
  · rename_i z; obtain ⟨rfl, _⟩ := z; cases h
    exact ⟨_, c_min2 g.calm, fun hc ha => pe_callB hc hg hm (by decide +kernel) ha (by decide) (by decide) s1 s2⟩
  cases h
/-- a class's name -/
theorem cls_ok {e : Expr} {c : Nat ⊕ String} (G : GOk W X S F gt) (ok : CtOk ct X) (h : clsOf gt ct e = some c) : ∃ cv, PCls X e cv (clsVal W c) ∧ isStar e = false := by
  unfold clsOf at h
  split at h
  · rename_i x q
    split at h
    case isFalse => cases h
    rename_i hpl
    have hdb := plain_db hpl
    split at h
    · rename_i c' hg
      cases h
      obtain ⟨h1, h2⟩ := gl_ok ok hg
      exact ⟨_, ⟨pe_glob (v := V.ref (W.cA c')) h1 (G.exc x _ h2).1 rfl hdb, .own _⟩, rfl⟩
    · rename_i c' hg
      cases h
      obtain ⟨h1, h2⟩ := gl_ok ok hg
      exact ⟨_, ⟨pe_glob (v := V.ref (W.cA c')) h1 (G.cls x _ h2) rfl hdb, .own _⟩, rfl⟩
    · split at h
      · rename_i hb
        obtain ⟨h1, h2, _⟩ := bl_ok G ok hb
        obtain ⟨t, ht, rfl⟩ := Option.map_eq_some_iff.mp h
        have key : ∀ {T : String}, bootBuiltins x = some (.type T) → x ≠ "__name__" → ∃ cv, PCls X (.Name x q) cv (clsVal W (.inr T)) ∧ isStar (.Name x q) = false := fun {T} hb hn => ⟨.ty T, ⟨pe_bltn h1 h2 hb rfl hn hdb, .ty T⟩, rfl⟩
        unfold tyOf at ht
        split at ht
        · rename_i z; subst z; cases ht; exact key (by decide +kernel) (by decide)
        split at ht
        · rename_i z; subst z; cases ht; exact key (by decide +kernel) (by decide)
        split at ht
        · rename_i z; subst z; cases ht; exact key (by decide +kernel) (by decide)
        split at ht
        · rename_i z; subst z; cases ht; exact key (by decide +kernel) (by decide)
        split at ht
        · rename_i z; subst z; cases ht; exact key (by decide +kernel) (by decide)
        split at ht
        · rename_i z; subst z; cases ht; exact key (by decide +kernel) (by decide)
        split at ht
        · rename_i z; subst z; cases ht; exact key (by decide +kernel) (by decide)
        cases ht
      · cases h
  · cases h
/-- a block's names -/
theorem blk_ok {s : Shared} {H : Hp} {C : Addr} {cl : List (Str × Addr)} {fp : List Addr} {scope : Scope} (ok : CtOk ct X) (hk : scope.kind = .function) : CtOk (blkCt ct scope) (X.blk s H scope (compEnvC scope cl C X.env) fp) := by
  have en : (X.blk s H scope (compEnvC scope cl C X.env) fp).env.scope.names = (scope.names.map fun (n, k) => if (k == NameKind.free && X.env.scope.kind == ScopeKind.function && X.env.scope.names.lookup n == some NameKind.cell) then (n, NameKind.cell) else (n, k)) := rfl
  refine ⟨ok.N, ?_, hk, fun x hx => ?_⟩
  · rw [en, ok.vs, ok.kd]
    simp [blkCt]
  · have hx' : isLoc scope.names x = true := hx
    unfold isLoc at hx'
    split at hx'
    · rename_i e
      have := lookup_relS_keep (sc := X.env.scope) (by decide) e
      exact ⟨.inl this, .inr this⟩
    · rename_i e
      have := lookup_relS_keep (sc := X.env.scope) (by decide) e
      refine ⟨.inr this, .inl ?_⟩
      show (scope.names.lookup x == some .cell) = true
      rw [e]; rfl
    · cases hx'
theorem blkC_ok {scope : Scope} (ok : CtOk ct X) (h : blkC ct.N ⟨.function, ct.vs, false, false, []⟩ scope (ownOf ct.N scope) = true) : BlkOk X.N X.env.scope scope (ownOf ct.N scope) := by
  have b := blkOk_by h
  exact ⟨b.kind, b.uniq, by rw [ok.N]; exact b.ix, fun y hy e => by rw [ok.vs]; exact b.free y hy e, by rw [ok.N]; exact b.own⟩
end
end Eg
set_option Elab.async false
set_option linter.all false
set_option maxRecDepth 100000
set_option maxHeartbeats 8000000
/-! the engine: what is compiled is what runs -/
namespace Eg
open PySem PySem.Spec PyProof.Rows L2

section
variable {W : Wd} {S : Stat} {F : Nat → Env → OutF} {gt : Gt}
theorem folded_ok {X : Cx} {e : Expr} (h : noSetE e = true) : ∀ x, foldedSetIterable e X.env x = pure x := by
  intro x
  cases e <;> first | rfl | cases h
theorem Sd.mk' {Wx : WX} {X : Cx} {e : Expr} {ir : Ex} (h : PE X e (tE W Wx fun ρ => evE S reprD F ir ρ)) (hv : varOf ir = none) (hs : isStar e = false) : Sd W Wx X S F e ir :=
  ⟨h, fun i z => (by rw [hv] at z; cases z), hs⟩
mutual
theorem ok_E : ∀ (n : Nat) {X : Cx} {Wx : WX} {ct : Ct} {e : Expr} {ir : Ex}, GX W Wx X → GOk W X S F gt → CtOk ct X → cE gt ct n e = some ir → Sd W Wx X S F e ir
  | 0, X, Wx, ct, e, ir, g, G, ok, h => by simp [cE] at h
  | n + 1, X, Wx, ct, e, ir, g, G, ok, h => by
    unfold cE at h
    split at h
    · cases h; exact .mk' (sb_const pe_int fun H => .int _) rfl rfl
    · cases h; exact .mk' (sb_const pe_bl fun H => .bl _) rfl rfl
    · cases h; exact .mk' (sb_const pe_non fun H => .non) rfl rfl
    · cases h; exact .mk' (sb_const pe_str fun H => .str _) rfl rfl
    · rename_i x q
      obtain ⟨i, h1, rfl⟩ := Option.map_eq_some_iff.mp h
      obtain ⟨k1, k2, k3, k4⟩ := var_ok ok h1
      exact ⟨sb_var k1 k2 k3 k4, fun j hj => by cases hj; exact ⟨x, q, rfl, k1, k2, k3, k4⟩, rfl⟩
    · obtain ⟨a', h1, h2⟩ := Option.bind_eq_some_iff.mp h
      obtain ⟨b', h3, rfl⟩ := Option.map_eq_some_iff.mp h2
      exact .mk' (sb_bin g (ok_E n g G ok h1).d (ok_E n g G ok h3).d) rfl rfl
    · obtain ⟨a', h1, rfl⟩ := Option.map_eq_some_iff.mp h
      exact .mk' (sb_neg (ok_E n g G ok h1).d) rfl rfl
    · obtain ⟨a', h1, rfl⟩ := Option.map_eq_some_iff.mp h
      exact .mk' (sb_not g (ok_E n g G ok h1).d) rfl rfl
    · split at h
      · rename_i hs
        obtain ⟨a', h1, h2⟩ := Option.bind_eq_some_iff.mp h
        obtain ⟨b', h3, rfl⟩ := Option.map_eq_some_iff.mp h2
        exact .mk' (sb_cmp g (nomarks (nset hs)) (ok_E n g G ok h1).d (ok_E n g G ok h3).look) rfl rfl
      · cases h
    · obtain ⟨a', h1, rfl⟩ := Option.map_eq_some_iff.mp h
      exact .mk' (pe_one (ok_E n g G ok h1).pe) rfl rfl
    · obtain ⟨a', h1, h2⟩ := Option.bind_eq_some_iff.mp h
      obtain ⟨b', h3, rfl⟩ := Option.map_eq_some_iff.mp h2
      exact .mk' (sb_and g (ok_E n g G ok h1).d (ok_E n g G ok h3).pe) rfl rfl
    · obtain ⟨a', h1, h2⟩ := Option.bind_eq_some_iff.mp h
      obtain ⟨b', h3, rfl⟩ := Option.map_eq_some_iff.mp h2
      exact .mk' (sb_or g (ok_E n g G ok h1).d (ok_E n g G ok h3).pe) rfl rfl
    · obtain ⟨c', h0, h⟩ := Option.bind_eq_some_iff.mp h
      obtain ⟨a', h1, h2⟩ := Option.bind_eq_some_iff.mp h
      obtain ⟨b', h3, rfl⟩ := Option.map_eq_some_iff.mp h2
      exact .mk' (sb_ite (ok_C n g G ok h0).1 (ok_E n g G ok h1).pe (ok_E n g G ok h3).pe) rfl rfl
    · obtain ⟨xs, h1, rfl⟩ := Option.map_eq_some_iff.mp h
      exact .mk' (sb_tup (ok_L n g G ok h1).1) rfl rfl
    · obtain ⟨xs, h1, rfl⟩ := Option.map_eq_some_iff.mp h
      exact .mk' (sb_lst (ok_L n g G ok h1).1) rfl rfl
    · cases h; exact .mk' sb_dic0 rfl rfl
    · split at h
      · rename_i hc
        obtain ⟨ks, h1, h2⟩ := Option.bind_eq_some_iff.mp h
        obtain ⟨vs, h3, rfl⟩ := Option.map_eq_some_iff.mp h2
        exact .mk' (sb_dic (ok_K n g G ok hc.1 h1 h3) (keys_pd h1).1 hc.1 hc.2.2 hc.2.1) rfl rfl
      · cases h
    · rename_i af ff qf
      split at h
      · rename_i hc
        obtain ⟨a', h1, h2⟩ := Option.bind_eq_some_iff.mp h
        obtain ⟨i, h3, rfl⟩ := Option.map_eq_some_iff.mp h2
        have hn : nmOf gt i = ff := by unfold nmOf; rw [ixOf_get h3]; rfl
        have := sb_fld (nm := nmOf gt) (n := i) (pos := qf) g G.wok G.fld G.prop (ok_E n g G ok h1).look (attr_base hc)
        rw [hn] at this
        exact .mk' this rfl rfl
      · cases h
    · obtain ⟨a', h1, h2⟩ := Option.bind_eq_some_iff.mp h
      obtain ⟨l, h3, h4⟩ := Option.bind_eq_some_iff.mp h2
      obtain ⟨hh, h5, rfl⟩ := Option.map_eq_some_iff.mp h4
      have sd := ok_E n g G ok h1
      refine .mk' ?_ rfl rfl
      simp only [evE]
      cases hv : varOf a' with
      | none => exact sb_slE g sd.d (ok_P n g G ok h3) (ok_P n g G ok h5)
      | some k =>
        obtain ⟨x, q, rfl, k1, k2, k3, k4⟩ := sd.nv k hv
        exact sb_slV g k1 k2 k3 k4 (ok_P n g G ok h3) (ok_P n g G ok h5)
    · split at h
      · rename_i hc
        obtain ⟨a', h1, h2⟩ := Option.bind_eq_some_iff.mp h
        obtain ⟨i', h3, rfl⟩ := Option.map_eq_some_iff.mp h2
        have sd := ok_E n g G ok h1
        refine .mk' ?_ rfl rfl
        simp only [evE]
        cases hv : varOf a' with
        | none => exact sb_ixE g sd.d (ok_E n g G ok h3).d (noslice_ix hc)
        | some k =>
          obtain ⟨x, q, rfl, k1, k2, k3, k4⟩ := sd.nv k hv
          exact sb_ixV g k1 k2 k3 k4 (ok_E n g G ok h3).d (noslice_ix hc)
      · cases h
    · split at h
      · rename_i hc
        rw [Bool.and_eq_true] at hc
        obtain ⟨it', h1, h2⟩ := Option.bind_eq_some_iff.mp h
        obtain ⟨tg', h3, h4⟩ := Option.bind_eq_some_iff.mp h2
        obtain ⟨c', h5, h6⟩ := Option.bind_eq_some_iff.mp h4
        obtain ⟨e', h7, rfl⟩ := Option.map_eq_some_iff.mp h6
        have bo := blkC_ok ok hc.2
        refine .mk' ?_ rfl rfl
        exact sb_lc g (ok_T n g G ok h1) bo (fun s H C cl fp => pg_tg (g.blk) (blk_ok ok bo.kind) h3) (fun s H C cl fp => ok_I n g.blk G.blk (blk_ok ok bo.kind) h5) (fun s H C cl fp => (ok_E n g.blk G.blk (blk_ok ok bo.kind) h7).d) (folded_ok hc.1)
      · cases h
    · rename_i x q args q2
      split at h
      · rename_i f hg
        obtain ⟨h1, h2⟩ := gl_ok ok hg
        split at h
        · rename_i hp
          obtain ⟨as, h3, rfl⟩ := Option.map_eq_some_iff.mp h
          obtain ⟨fa, k1, k2⟩ := G.fn x f h2
          obtain ⟨a1, a2⟩ := ok_A n g G ok h3
          refine .mk' ?_ rfl rfl
          cases args with
          | nil =>
            have : as = .nil := by cases n <;> simp [cAs] at h3 <;> exact h3.symm
            subst this
            exact sb_call0 g k2 h1 k1 (plain_db hp)
          | cons a r => exact sb_call g k2 h1 k1 (plain_db hp) a2 a1
        · cases h
      · rename_i c hg
        obtain ⟨h1, h2⟩ := gl_ok ok hg
        split at h
        · rename_i hp
          split at h
          · obtain ⟨a', h3, rfl⟩ := Option.map_eq_some_iff.mp h
            obtain ⟨k1, k2⟩ := G.exc x c h2
            have sd := ok_E n g G ok h3
            exact .mk' (sb_mkexc (S := S) g k2 G.sup G.room h1 k1 (plain_db hp) sd.ns sd.d) rfl rfl
          · cases h
        · cases h
      · cases h
      · split at h
        · rename_i hb
          obtain ⟨h1, h2, h3⟩ := bl_ok G ok hb
          split at h
          · rename_i hx
            subst hx
            split at h
            · rename_i a c
              obtain ⟨c', k1, k2⟩ := Option.bind_eq_some_iff.mp h
              obtain ⟨a', k3, rfl⟩ := Option.map_eq_some_iff.mp k2
              have sd := ok_E n g G ok k3
              obtain ⟨cv, k4, k5⟩ := cls_ok G ok k1
              refine .mk' ?_ rfl rfl
              exact sb_isi G.wok g k4 sd.ns k5 sd.look fun hc ha => pe_callB hc h1 h2 (by decide +kernel) ha (by decide) (by decide) (plain_star (isStar_ne sd.ns)) (nostar_any (by simp [k5]))
            · cases h
          · split at h
            · rename_i it hl
              obtain ⟨I, k1, rfl⟩ := Option.map_eq_some_iff.mp h
              refine .mk' ?_ rfl rfl
              unfold lrOf at hl
              split at hl
              · split at hl
                · rename_i hc
                  cases hl
                  obtain ⟨rfl, rfl, hr⟩ := hc
                  obtain ⟨r1, r2, _⟩ := bl_ok G ok hr
                  exact ok_R n g G ok k1 h1 h2 r1 r2
                · cases hl
              · cases hl
            · split at h
              · cases h
              · rename_i a r _
                obtain ⟨b, k1, k2⟩ := Option.bind_eq_some_iff.mp h
                obtain ⟨xs, k3, rfl⟩ := Option.map_eq_some_iff.mp k2
                obtain ⟨l1, l2⟩ := ok_L n g G ok k3
                obtain ⟨f, f1, f2⟩ := bi_ok (p := q) (pos := q2) g G.sys h1 h2 k1 l2
                refine .mk' ?_ rfl rfl
                cases r with
                | nil =>
                  cases n with
                  | zero => simp [cEs] at k3
                  | succ m =>
                    simp only [cEs] at k3
                    split at k3
                    · cases k3
                    · rename_i hst
                      obtain ⟨a', m1, m2⟩ := Option.bind_eq_some_iff.mp k3
                      obtain ⟨r', m3, rfl⟩ := Option.map_eq_some_iff.mp m2
                      have : r' = .nil := by cases m <;> simp [cEs] at m3 <;> exact m3.symm
                      subst this
                      have sd := ok_E m g G ok m1
                      exact sb_bi1 f1 f2 (isStar_ne sd.ns) sd.look
                | cons a2 r2 =>
                  cases n with
                  | zero => simp [cEs] at k3
                  | succ m =>
                    have l1' := l1
                    simp only [cEs] at k3
                    split at k3
                    · cases k3
                    · obtain ⟨a', m1, m2⟩ := Option.bind_eq_some_iff.mp k3
                      obtain ⟨r', m3, rfl⟩ := Option.map_eq_some_iff.mp m2
                      cases m with
                      | zero => simp [cEs] at m3
                      | succ m' =>
                        simp only [cEs] at m3
                        split at m3
                        · cases m3
                        · obtain ⟨a3, m4, m5⟩ := Option.bind_eq_some_iff.mp m3
                          obtain ⟨r3, m6, rfl⟩ := Option.map_eq_some_iff.mp m5
                          exact sb_bis f1 f2 l1'
        · cases h
    · cases h
termination_by n => n
theorem ok_C : ∀ (n : Nat) {X : Cx} {Wx : WX} {ct : Ct} {e : Expr} {c : Cn}, GX W Wx X → GOk W X S F gt → CtOk ct X → cC gt ct n e = some c → PT X e (tTe W Wx fun ρ => evC S reprD F c ρ) ∧ ∀ op vs q, e = .BoolOp op vs q → PW X e (tTe W Wx fun ρ => evC S reprD F c ρ)
  | 0, X, Wx, ct, e, c, g, G, ok, h => by simp [cC] at h
  | n + 1, X, Wx, ct, e, c, g, G, ok, h => by
    unfold cC at h
    split at h
    · obtain ⟨a', h1, rfl⟩ := Option.map_eq_some_iff.mp h
      exact ⟨sb_notT (ok_C n g G ok h1).1, fun _ _ _ z => nomatch z⟩
    · rename_i op a q
      have h1 := (ok_C n g G ok h).1
      have : PW X (.BoolOp op [a] q) (tTe W Wx fun ρ => evC S reprD F c ρ) := by
        cases op
        · exact pw_and1 h1
        · exact pw_or1 h1
      exact ⟨this.pt, fun _ _ _ _ => this⟩
    · obtain ⟨a', h1, h2⟩ := Option.bind_eq_some_iff.mp h
      obtain ⟨b', h3, rfl⟩ := Option.map_eq_some_iff.mp h2
      have := sb_andT (ok_C n g G ok h1).1 ((ok_C n g G ok h3).2 _ _ _ rfl)
      exact ⟨this.pt, fun _ _ _ _ => this⟩
    · obtain ⟨a', h1, h2⟩ := Option.bind_eq_some_iff.mp h
      obtain ⟨b', h3, rfl⟩ := Option.map_eq_some_iff.mp h2
      have := sb_orT (ok_C n g G ok h1).1 ((ok_C n g G ok h3).2 _ _ _ rfl)
      exact ⟨this.pt, fun _ _ _ _ => this⟩
    · split at h
      · rename_i hs
        obtain ⟨a', h1, h2⟩ := Option.bind_eq_some_iff.mp h
        obtain ⟨b', h3, rfl⟩ := Option.map_eq_some_iff.mp h2
        exact ⟨sb_cmpT g (nomarks (nset hs)) (ok_E n g G ok h1).d (ok_E n g G ok h3).look, fun _ _ _ z => nomatch z⟩
      · cases h
    · split at h
      · rename_i ht
        obtain ⟨a', h1, rfl⟩ := Option.map_eq_some_iff.mp h
        exact ⟨sb_truth g (ok_E n g G ok h1).d (truth_is ht), fun _ _ _ z => by subst z; cases ht⟩
      · cases h
termination_by n => n
theorem ok_P : ∀ (n : Nat) {X : Cx} {Wx : WX} {ct : Ct} {e : Option Expr} {ir : Ex}, GX W Wx X → GOk W X S F gt → CtOk ct X → cP gt ct n e = some ir → PO X e (tOe W Wx fun ρ => partO ir ρ (evE S reprD F ir ρ))
  | n, X, Wx, ct, none, ir, g, G, ok, h => by
    have : ir = .none := by cases n <;> simp [cP] at h <;> exact h.symm
    subst this
    exact sb_noPart
  | 0, X, Wx, ct, some e, ir, g, G, ok, h => by simp [cP] at h
  | n + 1, X, Wx, ct, some e, ir, g, G, ok, h => by
    simp only [cP] at h
    obtain ⟨e', h1, h2⟩ := Option.bind_eq_some_iff.mp h
    split at h2
    · cases h2
    · rename_i hn
      cases h2
      have hn' : noneE ir = false := by simpa using hn
      have := sb_part (ok_E n g G ok h1).d
      unfold partO
      rw [hn']
      exact this
termination_by n => n
theorem ok_L : ∀ (n : Nat) {X : Cx} {Wx : WX} {ct : Ct} {es : List Expr} {xs : Exs}, GX W Wx X → GOk W X S F gt → CtOk ct X → cEs gt ct n es = some xs → PA X es (tDs W Wx fun ρ => evDs S reprD F xs ρ) ∧ (es.all fun e => !isStar e) = true
  | n, X, Wx, ct, [], xs, g, G, ok, h => by
    have : xs = .nil := by cases n <;> simp [cEs] at h <;> exact h.symm
    subst this
    exact ⟨sb_nil, rfl⟩
  | 0, X, Wx, ct, e :: es, xs, g, G, ok, h => by simp [cEs] at h
  | n + 1, X, Wx, ct, e :: es, xs, g, G, ok, h => by
    simp only [cEs] at h
    split at h
    · cases h
    · rename_i hs
      obtain ⟨a', h1, h2⟩ := Option.bind_eq_some_iff.mp h
      obtain ⟨b', h3, rfl⟩ := Option.map_eq_some_iff.mp h2
      have hs' : isStar e = false := by simpa using hs
      obtain ⟨l1, l2⟩ := ok_L n g G ok h3
      exact ⟨sb_cons (isStar_ne hs') (ok_E n g G ok h1).d l1, by simp [hs', l2]⟩
termination_by n => n
theorem ok_K : ∀ (n : Nat) {X : Cx} {Wx : WX} {ct : Ct} {keys : List (Option Expr)} {ks : List Key} {es : List Expr} {xs : Exs} {pos : Pos}, GX W Wx X → GOk W X S F gt → CtOk ct X → keys.length = es.length → keysOf keys = some ks → cEs gt ct n es = some xs → PD X pos keys es (tKv W Wx ks fun ρ => evDs S reprD F xs ρ)
  | n, X, Wx, ct, keys, ks, [], xs, pos, g, G, ok, hl, hk, h => by
    have : xs = .nil := by cases n <;> simp [cEs] at h <;> exact h.symm
    subst this
    cases keys with
    | nil => simp [keysOf] at hk; subst hk; exact pd_nil
    | cons _ _ => simp at hl
  | 0, X, Wx, ct, keys, ks, e :: es, xs, pos, g, G, ok, hl, hk, h => by simp [cEs] at h
  | n + 1, X, Wx, ct, [], ks, e :: es, xs, pos, g, G, ok, hl, hk, h => by simp at hl
  | n + 1, X, Wx, ct, k :: keys, ks, e :: es, xs, pos, g, G, ok, hl, hk, h => by
    simp only [cEs] at h
    split at h
    · cases h
    · obtain ⟨a', h1, h2⟩ := Option.bind_eq_some_iff.mp h
      obtain ⟨b', h3, rfl⟩ := Option.map_eq_some_iff.mp h2
      have hl' : keys.length = es.length := by simpa using hl
      have one : ∀ {k' : Key} {ks' : List Key}, keyEx k' k = true → keysOf keys = some ks' → PD X pos (k :: keys) (e :: es) (tKv W Wx (k' :: ks') fun ρ => evDs S reprD F (.cons false a' b') ρ) := fun hx hk' => pd_cons hx (ok_E n g G ok h1).d (ok_K n g G ok hl' hk' h3)
      unfold keysOf at hk
      split at hk
      · cases ‹_ :: _ = _›
      · rename_i z; cases z
        obtain ⟨ks', m1, rfl⟩ := Option.map_eq_some_iff.mp hk
        exact one (by simp [keyEx]) m1
      · rename_i z; cases z
        obtain ⟨ks', m1, rfl⟩ := Option.map_eq_some_iff.mp hk
        exact one (by simp [keyEx]) m1
      · cases hk
termination_by n => n
theorem ok_A : ∀ (n : Nat) {X : Cx} {Wx : WX} {ct : Ct} {o : List Bool} {es : List Expr} {xs : Exs}, GX W Wx X → GOk W X S F gt → CtOk ct X → cAs gt ct n o es = some xs → PA X es (tAs W Wx fun ρ => evAs S reprD F xs ρ) ∧ (es.all fun e => !isStar e) = true
  | n, X, Wx, ct, o, [], xs, g, G, ok, h => by
    have : xs = .nil := by cases n <;> simp [cAs] at h <;> exact h.symm
    subst this
    exact ⟨sb_anil, rfl⟩
  | 0, X, Wx, ct, o, e :: es, xs, g, G, ok, h => by simp [cAs] at h
  | n + 1, X, Wx, ct, o, e :: es, xs, g, G, ok, h => by
    simp only [cAs] at h
    split at h
    · cases h
    · rename_i hs
      obtain ⟨a', h1, h2⟩ := Option.bind_eq_some_iff.mp h
      obtain ⟨b', h3, rfl⟩ := Option.map_eq_some_iff.mp h2
      have hs' : isStar e = false := by simpa using hs
      obtain ⟨l1, l2⟩ := ok_A n g G ok h3
      have sd := ok_E n g G ok h1
      refine ⟨?_, by simp [hs', l2]⟩
      simp only [evAs]
      cases hfz : (!o.headD false) with
      | true => exact sb_afz hs' sd.d l1
      | false =>
        simp only [Bool.false_eq_true, if_false]
        cases hv : varOf a' with
        | none => exact sb_atm hs' sd.pe l1
        | some i =>
          obtain ⟨x, q, rfl, k1, k2, k3, k4⟩ := sd.nv i hv
          exact sb_aio k1 k2 k3 k4 l1
termination_by n => n
theorem ok_I : ∀ (n : Nat) {X : Cx} {Wx : WX} {ct : Ct} {es : List Expr} {c : Cn}, GX W Wx X → GOk W X S F gt → CtOk ct X → cIfs gt ct n es = some c → PTs X es (tTe W Wx fun ρ => evC S reprD F c ρ)
  | n, X, Wx, ct, [], c, g, G, ok, h => by
    have : c = .tt := by cases n <;> exact (Option.some.inj (show some Cn.tt = some c from h)).symm
    subst this
    exact ⟨fun pins s σ H Q I ⟨C, ρ, rel, q⟩ => pts_nil.run pins s σ H Q I (q H (Ext.refl _) rel)⟩
  | 0, X, Wx, ct, [e], c, g, G, ok, h => by have h' : (none : Option Cn) = some c := h; cases h'
  | 0, X, Wx, ct, e :: e2 :: es, c, g, G, ok, h => by have h' : (none : Option Cn) = some c := h; cases h'
  | n + 1, X, Wx, ct, [e], c, g, G, ok, h => pts_one (ok_C n g G ok (show cC gt ct n e = some c from h)).1
  | n + 1, X, Wx, ct, e :: e2 :: es, c, g, G, ok, h => by have h' : (none : Option Cn) = some c := h; cases h'
termination_by n => n
theorem ok_R : ∀ (n : Nat) {X : Cx} {Wx : WX} {ct : Ct} {es : List Expr} {I : It} {p q p2 q2 : Pos}, GX W Wx X → GOk W X S F gt → CtOk ct X → cR gt ct n es = some I → Gl X "list" → X.mg "list" = none → Gl X "range" → X.mg "range" = none →
    PE X (.Call (.Name "list" p) [.Call (.Name "range" p2) es [] q2] [] q) (tE W Wx fun ρ => evE S reprD F (.lrng I) ρ)
  | 0, X, Wx, ct, es, I, p, q, p2, q2, g, G, ok, h, l1, l2, r1, r2 => by simp [cR] at h
  | n + 1, X, Wx, ct, [], I, p, q, p2, q2, g, G, ok, h, l1, l2, r1, r2 => by simp [cR] at h
  | n + 1, X, Wx, ct, [a], I, p, q, p2, q2, g, G, ok, h, l1, l2, r1, r2 => by
    simp only [cR] at h
    obtain ⟨a', h1, rfl⟩ := Option.map_eq_some_iff.mp h
    have sd := ok_E n g G ok h1
    exact sb_lrng1 g l1 l2 r1 r2 (isStar_ne sd.ns) sd.d
  | n + 1, X, Wx, ct, [a, b], I, p, q, p2, q2, g, G, ok, h, l1, l2, r1, r2 => by
    simp only [cR] at h
    obtain ⟨a', h1, h2⟩ := Option.bind_eq_some_iff.mp h
    obtain ⟨b', h3, rfl⟩ := Option.map_eq_some_iff.mp h2
    have sd := ok_E n g G ok h1
    have sd2 := ok_E n g G ok h3
    exact sb_lrng2 g l1 l2 r1 r2 (isStar_ne sd.ns) sd2.ns sd.d sd2.d
  | n + 1, X, Wx, ct, a :: b :: c :: r, I, p, q, p2, q2, g, G, ok, h, l1, l2, r1, r2 => by simp [cR] at h
termination_by n => n
theorem ok_T : ∀ (n : Nat) {X : Cx} {Wx : WX} {ct : Ct} {tg e : Expr} {I : It}, GX W Wx X → GOk W X S F gt → CtOk ct X → cIt gt ct n tg e = some I → PI X tg e (tIt W Wx X.K fun ρ => evIt S reprD F I ρ)
  | 0, X, Wx, ct, tg, e, I, g, G, ok, h => by simp [cIt] at h
  | n + 1, X, Wx, ct, tg, e, I, g, G, ok, h => by
    have seq : ∀ {I : It}, (cE gt ct n e).map It.seq = some I → PI X tg e (tIt W Wx X.K fun ρ => evIt S reprD F I ρ) := fun {I} h => by
      obtain ⟨a', h1, rfl⟩ := Option.map_eq_some_iff.mp h
      exact si_seq g (ok_E n g G ok h1).d
    unfold cIt at h
    split at h
    · rename_i x q args q2
      split at h
      · rename_i hc
        simp only [Bool.and_eq_true, beq_iff_eq] at hc
        obtain ⟨hb, rfl⟩ := hc
        obtain ⟨r1, r2, _⟩ := bl_ok G ok hb
        cases n with
        | zero => simp [cR] at h
        | succ m =>
          rcases args with _ | ⟨a, _ | ⟨b, _ | ⟨c, r⟩⟩⟩
          · simp [cR] at h
          · simp only [cR] at h
            obtain ⟨a', h1, rfl⟩ := Option.map_eq_some_iff.mp h
            have sd := ok_E m g G ok h1
            exact si_rng1 r1 r2 sd.ns sd.d
          · simp only [cR] at h
            obtain ⟨a', h1, h2⟩ := Option.bind_eq_some_iff.mp h
            obtain ⟨b', h3, rfl⟩ := Option.map_eq_some_iff.mp h2
            have sd := ok_E m g G ok h1
            have sd2 := ok_E m g G ok h3
            exact si_rng2 r1 r2 sd.ns sd2.ns sd.d sd2.d
          · simp [cR] at h
      · split at h
        · rename_i hc
          simp only [Bool.and_eq_true, beq_iff_eq] at hc
          obtain ⟨hb, rfl⟩ := hc
          obtain ⟨r1, r2, _⟩ := bl_ok G ok hb
          split at h
          · split at h
            · cases h
            · obtain ⟨a', h1, rfl⟩ := Option.map_eq_some_iff.mp h
              have sd := ok_E n g G ok h1
              exact si_enum g r1 r2 sd.ns sd.d
          · cases h
        · split at h
          · rename_i hc
            simp only [Bool.and_eq_true, beq_iff_eq] at hc
            obtain ⟨hb, rfl⟩ := hc
            obtain ⟨r1, r2, _⟩ := bl_ok G ok hb
            split at h
            · split at h
              · cases h
              · obtain ⟨a', h1, h2⟩ := Option.bind_eq_some_iff.mp h
                obtain ⟨b', h3, rfl⟩ := Option.map_eq_some_iff.mp h2
                have sd := ok_E n g G ok h1
                have sd2 := ok_E n g G ok h3
                exact si_zip g r1 r2 sd.ns sd2.ns sd.d sd2.d
            · cases h
          · exact seq h
    · exact seq h
termination_by n => n
end
end
end Eg
set_option Elab.async false
set_option linter.all false
set_option maxRecDepth 100000
set_option maxHeartbeats 8000000
/-! the engine: statements of the text, compiled -/
namespace Eg
open PySem PySem.Spec PyProof.Rows L2

def noComp : Expr → Bool
  | .ListComp _ _ _ _ => false
  | .SetComp _ _ _ _ => false
  | .DictComp _ _ _ _ _ => false
  | _ => true
def noTup : Expr → Bool
  | .Tuple _ _ _ => false
  | _ => true
/-- a comprehension is stored on its own line -/
def swapB (ct : Ct) (x : Str) (q p : Pos) (scope : Scope) : Bool := (match ct.vs.lookup x with
  | some .local => true
  | _ => false) && (q.line == p.line) && !(scope.names.any fun (n, k) => n == x && (k == .local || k == .cell))
/-- a name is stored -/
def setE (gt : Gt) (ct : Ct) (n : Nat) (x : Str) (q : Pos) (e : Expr) : Option Ex := match e with
  | .ListComp _ [⟨_, _, _, 0⟩] scope p => if swapB ct x q p scope then cE gt ct n e else none
  | e => if noComp e then cE gt ct n e else none
mutual
def cS (gt : Gt) (ct : Ct) : Nat → Stmt → Option St
  | n + 1, st => match st with
    | .Assign [.Name x q] e _ => if isLoc ct.st x && plainNm x then (ixOf x ct.N).bind fun i => (setE gt ct n x q e).map fun e' => .asg i e' else none
    | .Assign [.Tuple es k q] e _ => if noTup e && noComp e then (cTg ct n (.Tuple es k q)).bind fun t => (cE gt ct n e).map fun e' => .asgT t e' else none
    | .Assign [.Subscript (.Name x _) ix _] e _ => if noSlice ix && noComp e then (varE ct x).bind fun i => (cE gt ct n ix).bind fun i' => (cE gt ct n e).map fun e' => .asgI i i' e' else none
    | .Expr (.Call (.Attribute (.Name x _) m apos) [e] [] cpos) _ => if apos.endLine == cpos.line && !isStar e then
        (if m = "append" then (varE ct x).bind fun i => (cE gt ct n e).map fun e' => .app i e'
        else if m = "extend" then (varE ct x).bind fun i => (cE gt ct n e).map fun e' => .ext i e' else none) else none
    | .Expr (.Constant (.str _) _ _) _ => some .pass
    | .Return none _ => some (.ret (.cst .non))
    | .Return (some e) _ => (cE gt ct n e).map .ret
    | .If c a b _ => (cC gt ct n c).bind fun c' => (cSs gt ct n a).bind fun a' => (cSs gt ct n b).map fun b' => .ifs c' a' b'
    | .For tg it body [] _ => if noSetE it then (cIt gt ct n tg it).bind fun it' => (cTg ct n tg).bind fun t => (cSs gt ct n body).map fun b => .for_ t it' b else none
    | .While c body [] _ => (cC gt ct n c).bind fun c' => (cSs gt ct n body).map fun b => .while_ c' b
    | .Pass _ => some .pass
    | .Break _ => some .brk
    | .Continue _ => some .cnt
    | _ => none
  | 0, _ => none
def cSs (gt : Gt) (ct : Ct) : Nat → List Stmt → Option Sts
  | _, [] => some .nil
  | n + 1, s :: r => (cS gt ct n s).bind fun s' => (cSs gt ct n r).map fun r' => .cons s' r'
  | _, _ => none
end
section
variable {W : Wd} {S : Stat} {F : Nat → Env → OutF} {gt : Gt} {X : Cx} {Wx : WX} {ct : Ct} {io kp : List Nat} {pos p q : Pos}
theorem nocomp_sw {e : Expr} {t : Option Expr} {l : Nat} (h : noComp e = true) : swapsWith e t l X.env = pure false := by
  cases e <;> first | rfl | cases h
theorem ss_retV {x : Str} {i : Nat} (hN : X.N[i]? = some x) (hv : Vis X.env.scope x) (hd : (x == ("__debug__" : Str)) = false) (hcd : (x == ("__classdict__" : Str)) = false) :
    PS X (.Return (some (.Name x p)) pos) (tS W Wx io fun ρ => if io.contains i then SO.of (evE S reprD F (.var i) ρ) fun t ρ => .ret t ρ else match ρ[i]? with
      | some (.own t) => .ret t (ρ.set i .unb)
      | some (.val d) => .ret (.fr d) ρ
      | _ => .bad) := by
  cases hio : io.contains i with
  | true => exact ss_ret (sb_var hN hv hd hcd)
  | false =>
    refine (ps_ret (pe_var (pos := p) hN hv hd hcd)).mono fun D σ H ⟨C, ρ, hf, rel, q⟩ => ?_
    simp only [Bool.false_eq_true, if_false] at q
    split at q
    · rename_i t e
      obtain ⟨fp, r⟩ := rel
      obtain ⟨o, f1, f2, f3, h1, h2, h3, h4⟩ := r.slots.at e
      cases h3 with
      | own ow =>
        rename_i v
        subst h2
        refine ⟨v, h1, q v σ H (Ext.refl _) ⟨f1 ++ ([] ++ f3), f2, ow, ?_⟩⟩
        have sl := h4 H .unb (some v) [] (Ext.refl _) (fun _ _ => rfl) .unb
        rw [set_same h1] at sl
        have nd := r.nd
        simp only [List.append_nil] at nd
        refine ⟨sl, ?_, fun a m => r.own a ?_, r.frame, r.dom, r.fix, r.tabs⟩
        · obtain ⟨n1, n2, n3⟩ := List.nodup_append.mp nd
          obtain ⟨m1, m2, m3⟩ := List.nodup_append.mp n2
          simp only [List.nil_append]
          refine List.nodup_append.mpr ⟨List.nodup_append.mpr ⟨n1, m2, fun a m b m' => n3 a m b (by simp [m'])⟩, m1, fun a m b m' z => ?_⟩
          rcases List.mem_append.mp m with m | m
          · exact n3 a m b (by simp [m']) z
          · exact m3 b m' a m z.symm
        · simp at m ⊢
          rcases m with m | m | m <;> simp [m]
    · rename_i d e
      obtain ⟨v, h1, h2⟩ := rel.val e
      exact ⟨v, h1, q v σ H (Ext.refl _) (rel.relT h2)⟩
    · exact q.elim
theorem set_ok {n i : Nat} {x : Str} {e : Expr} {ir : Ex} (g : GX W Wx X) (G : GOk W X S F gt) (ok : CtOk ct X) (hi : X.N[i]? = some x) (hl : isLoc ct.st x = true) (h : setE gt ct n x q e = some ir) : PS X (.Assign [.Name x q] e pos) (tAsg (tE W Wx fun ρ => evE S reprD F ir ρ) (gName i)) := by
  obtain ⟨hx, hf⟩ := ok.st x hl
  unfold setE at h
  split at h
  · rename_i elt tg it ifs scope p
    split at h
    · rename_i hsw
      unfold swapB at hsw
      simp only [Bool.and_eq_true, Bool.not_eq_true'] at hsw
      obtain ⟨⟨s1, s2⟩, s3⟩ := hsw
      have hloc : X.env.scope.names.lookup x = some .local := by
        rw [ok.vs]
        split at s1
        · assumption
        · cases s1
      cases n with
      | zero => simp [cE] at h
      | succ n =>
        unfold cE at h
        simp only at h
        split at h
        · rename_i hc
          rw [Bool.and_eq_true] at hc
          obtain ⟨it', h1, h2⟩ := Option.bind_eq_some_iff.mp h
          obtain ⟨tg', h3, h4⟩ := Option.bind_eq_some_iff.mp h2
          obtain ⟨c', h5, h6⟩ := Option.bind_eq_some_iff.mp h4
          obtain ⟨e', h7, rfl⟩ := Option.map_eq_some_iff.mp h6
          have bo := blkC_ok ok hc.2
          refine (ps_setLc g.calm g.nd hi hloc ?_ (ok_T n g G ok h1) bo (fun s H C cl fp => pg_tg (io := []) (g.blk) (blk_ok ok bo.kind) h3) (fun s H C cl fp => ok_I n g.blk G.blk (blk_ok ok bo.kind) h5) (fun s H C cl fp => (ok_E n g.blk G.blk (blk_ok ok bo.kind) h7).d) (folded_ok hc.1)).mono fun D σ H q => ?_
          · exact sw_true ok.kd hloc s2 s3
          · exact lc_read q
        · cases h
    · cases h
  · split at h
    · rename_i hc
      exact ps_set g.nd hi hx (ok_E n g G ok h).pe (nocomp_sw hc) hf
    · cases h
theorem nocomp_sole {t e : Expr} {l : Nat} (h : noComp e = true) : swapsWithSole [t] e l X.env = pure false := nocomp_sw h
theorem notup_sw {ts : List Expr} {e : Expr} (h : noTup e = true) : swappedStores ts e X.env = pure none := by
  cases e <;> first | cases h | skip
  all_goals (rcases ts with _ | ⟨t, _ | ⟨t2, r⟩⟩ <;> first | rfl | (cases t <;> rfl))
mutual
theorem ok_S : ∀ (n : Nat) {X : Cx} {Wx : WX} {ct : Ct} {st : Stmt} {ir : St} {N : Nat} {io kp : List Nat}, PassesOwn (model X.prog X.w) X.A X.env X.xe → GX W Wx X → GOk W X S F gt → CtOk ct X → cS gt ct n st = some ir → PS X st (tS W Wx io fun ρ => evS S reprD F N io kp ir ρ)
  | 0, X, Wx, ct, st, ir, N, io, kp, hp, g, G, ok, h => by simp [cS] at h
  | n + 1, X, Wx, ct, st, ir, N, io, kp, hp, g, G, ok, h => by
    unfold cS at h
    split at h
    · rename_i x q e p
      split at h
      · rename_i hc
        rw [Bool.and_eq_true] at hc
        obtain ⟨i, h1, h2⟩ := Option.bind_eq_some_iff.mp h
        obtain ⟨e', h3, rfl⟩ := Option.map_eq_some_iff.mp h2
        exact ss_set (set_ok g G ok (by rw [ok.N]; exact ixOf_get h1) hc.1 h3)
      · cases h
    · split at h
      · rename_i hc
        rw [Bool.and_eq_true] at hc
        obtain ⟨t, h1, h2⟩ := Option.bind_eq_some_iff.mp h
        obtain ⟨e', h3, rfl⟩ := Option.map_eq_some_iff.mp h2
        exact ss_asgT (ok_E n g G ok h3).d (pg_tg g ok h1) (nocomp_sole hc.2) (notup_sw hc.1) rfl
      · cases h
    · rename_i x1 qa ix qb e1 qc
      split at h
      · rename_i hc
        rw [Bool.and_eq_true] at hc
        obtain ⟨i, h1, h2⟩ := Option.bind_eq_some_iff.mp h
        obtain ⟨i', h3, h4⟩ := Option.bind_eq_some_iff.mp h2
        obtain ⟨e', h5, rfl⟩ := Option.map_eq_some_iff.mp h4
        obtain ⟨k1, k2, k3, k4⟩ := var_ok ok h1
        exact ss_asgI k1 k2 k3 k4 (ok_E n g G ok h5).d (ok_E n g G ok h3).d (fun v => by
          have hs := hc.1
          cases ix <;> first | rfl | cases hs) (nocomp_sole hc.2) (by cases e1 <;> rfl)
      · cases h
    · split at h
      · rename_i hc
        simp only [Bool.and_eq_true, Bool.not_eq_true'] at hc
        split at h
        · rename_i hm
          subst hm
          obtain ⟨i, h1, h2⟩ := Option.bind_eq_some_iff.mp h
          obtain ⟨e', h3, rfl⟩ := Option.map_eq_some_iff.mp h2
          obtain ⟨k1, k2, k3, k4⟩ := var_ok ok h1
          exact ss_app k1 k2 k3 k4 (ok_E n g G ok h3).d hc.2 hc.1 rfl (by rw [plain_star (isStar_ne hc.2)]; rfl)
        · split at h
          · rename_i hm
            subst hm
            obtain ⟨i, h1, h2⟩ := Option.bind_eq_some_iff.mp h
            obtain ⟨e', h3, rfl⟩ := Option.map_eq_some_iff.mp h2
            obtain ⟨k1, k2, k3, k4⟩ := var_ok ok h1
            exact ss_ext k1 k2 k3 k4 (ok_E n g G ok h3).pe hc.2 hc.1 rfl (by rw [plain_star (isStar_ne hc.2)]; rfl)
          · cases h
      · cases h
    · cases h
      exact ps_doc.mono fun D σ H ⟨C, ρ, hf, rel, q⟩ => q σ H (Ext.refl _) rel
    · cases h
      exact ss_retN
    · rename_i e p
      obtain ⟨e', h1, rfl⟩ := Option.map_eq_some_iff.mp h
      have sd := ok_E n g G ok h1
      cases hv : varOf e' with
      | some i =>
        obtain ⟨x, q, rfl, k1, k2, k3, k4⟩ := sd.nv i hv
        cases e' <;> simp [varOf] at hv
        subst hv
        exact ss_retV k1 k2 k3 k4
      | none =>
        have := ss_ret (io := io) (pos := p) sd.pe
        cases e' <;> first | exact this | (simp [varOf] at hv; done)
    · obtain ⟨c', h1, h2⟩ := Option.bind_eq_some_iff.mp h
      obtain ⟨a', h3, h4⟩ := Option.bind_eq_some_iff.mp h2
      obtain ⟨b', h5, rfl⟩ := Option.map_eq_some_iff.mp h4
      exact ss_if (ok_C n g G ok h1).1 (ok_Ss n hp g G ok h3) (ok_Ss n hp g G ok h5)
    · split at h
      · rename_i hc
        obtain ⟨it', h1, h2⟩ := Option.bind_eq_some_iff.mp h
        obtain ⟨t, h3, h4⟩ := Option.bind_eq_some_iff.mp h2
        obtain ⟨b', h5, rfl⟩ := Option.map_eq_some_iff.mp h4
        exact ss_for hp g (ok_T n g G ok h1) (pg_tg g ok h3) (ok_Ss n hp g G ok h5) (folded_ok hc)
      · cases h
    · obtain ⟨c', h1, h2⟩ := Option.bind_eq_some_iff.mp h
      obtain ⟨b', h5, rfl⟩ := Option.map_eq_some_iff.mp h2
      exact ss_while hp (ok_C n g G ok h1).1 (ok_Ss n hp g G ok h5)
    · cases h; exact ss_pass
    · cases h; exact ss_brk
    · cases h; exact ss_cnt
    · cases h
termination_by n => n
theorem ok_Ss : ∀ (n : Nat) {X : Cx} {Wx : WX} {ct : Ct} {sts : List Stmt} {ir : Sts} {N : Nat} {io kp : List Nat}, PassesOwn (model X.prog X.w) X.A X.env X.xe → GX W Wx X → GOk W X S F gt → CtOk ct X → cSs gt ct n sts = some ir → PSs X sts (tS W Wx io fun ρ => evSs S reprD F N io kp ir ρ)
  | n, X, Wx, ct, [], ir, N, io, kp, hp, g, G, ok, h => by
    have : ir = .nil := by cases n <;> simp [cSs] at h <;> exact h.symm
    subst this
    exact ss_nil
  | 0, X, Wx, ct, s :: r, ir, N, io, kp, hp, g, G, ok, h => by simp [cSs] at h
  | n + 1, X, Wx, ct, s :: r, ir, N, io, kp, hp, g, G, ok, h => by
    simp only [cSs] at h
    obtain ⟨s', h1, h2⟩ := Option.bind_eq_some_iff.mp h
    obtain ⟨r', h3, rfl⟩ := Option.map_eq_some_iff.mp h2
    exact ss_cons (ok_S n hp g G ok h1) (ok_Ss n hp g G ok h3)
termination_by n => n
end
end
end Eg
set_option Elab.async false
set_option linter.all false
set_option maxRecDepth 100000
set_option maxHeartbeats 8000000
/-! the engine: what the head tells of the written part -/
namespace Eg
open PySem PySem.Spec PyProof.Rows L2 He

/-- what the names reach, the modules' table and the statics' table besides -/
def asX (g : Addr → Option Obj) : Nat → List Addr
  | 0 => [mainGlobals, sysModules, cStatics]
  | n + 1 => growD g (asX g n)
/-- a def's data -/
abbrev FnX : Type := Option (Str × Str × Arguments × FuncBody × Scope × Addr × List Str × Bool × Addr)
def fnX' (K : PySem.W.Frag) (p : Str × Option Str) : FnX := match K.lookup (fAd K p) with
  | some ⟨_, _, .func fd, _⟩ => some (fd.name, fd.qualname, fd.params, fd.body, fd.scope, fd.globals, fd.closure.map (·.1), (match fd.defaults with
    | .none => true
    | _ => false), fd.builtins)
  | _ => none
structure DefX where
  at_ : Str × Option Str
  name : Str
  qual : Str
  params : Arguments
  body : List Stmt
  scope : Scope
  clo : List Str := []
def DefX.val (d : DefX) : FnX := some (d.name, d.qual, d.params, .stmts d.body, d.scope, mainGlobals, d.clo, true, builtinsNs)
def DefX.ok (K : PySem.W.Frag) (d : DefX) : Bool := PySem.W.keepIn K (.ref (fAd K d.at_)) && (match K.lookup (fAd K d.at_) with
  | some ⟨_, _, .func fd, _⟩ => PySem.W.codeIn K fd.code d.qual
  | _ => false)
abbrev AlX : Type := Bool × List FnX
def obsX (chk : PySem.W.Frag → Bool) (fn : List DefX) (K : PySem.W.Frag) : AlX := (chk K && fn.all fun d => d.ok K, fn.map fun d => fnX' K d.at_)
def valX (fn : List DefX) : AlX := (true, fn.map DefX.val)
def SaysX (chk : PySem.W.Frag → Bool) (fn : List DefX) (K : PySem.W.Frag) : Prop := obsX chk fn K = valX fn
def obsXG (n : Nat) (chk : PySem.W.Frag → Bool) (fn : List DefX) (g : Addr → Option Obj) : AlX := obsX chk fn (frG g (asX g n))
def hookX (n : Nat) (chk : PySem.W.Frag → Bool) (fn : List DefX) : PySem.W.Hook where
  α := AlX
  obs := fun s => obsXG n chk fn s.heap.get?
  val := fun _ => valX fn
  says := fun _ h => ∃ K : PySem.W.Frag, K.In h ∧ SaysX chk fn K
  of := fun _ _ e => ⟨_, frG_in, e⟩
  keeps := fun _ _ _ ⟨K, hK, c⟩ k => ⟨K, PySem.W.Frag.In.keeps hK k, c⟩
theorem obsXG_eq {n : Nat} {chk : PySem.W.Frag → Bool} {fn : List DefX} {g : Addr → Option Obj} {s : Shared} (h : ∀ a, g a = s.heap.get? a) : obsXG n chk fn g = (hookX n chk fn).obs s := by
  have e : g = s.heap.get? := funext h
  rw [e]; rfl
section
variable {chk : PySem.W.Frag → Bool} {fn : List DefX} {K : PySem.W.Frag}
theorem SaysX.all (c : SaysX chk fn K) : chk K = true := (ba (show (chk K && fn.all fun d => d.ok K) = true from congrArg (fun z : AlX => z.1) c)).1
/-- a def without a closure -/
theorem SaysX.def_ (c : SaysX chk fn K) {i : Nat} {d : DefX} (h : fn[i]? = some d) (hc : d.clo = []) :
    ∃ oc od osl kV doc pm an cdv ct, K.lookup (fAd K d.at_) = some ⟨oc, od, .func (PySem.W.fnOf d.name d.qual d.params d.body d.scope .none kV doc pm an cdv ct), osl⟩ ∧ PySem.W.codeIn K cdv d.qual = true ∧ PySem.W.keepIn K (.ref (fAd K d.at_)) = true := by
  have c2 := (ba (show (chk K && fn.all fun d => d.ok K) = true from congrArg (fun z : AlX => z.1) c)).2
  have e : fn.map (fun d => fnX' K d.at_) = fn.map DefX.val := congrArg (fun z : AlX => z.2) c
  have e2 : (fn.map fun d => fnX' K d.at_)[i]? = (fn.map DefX.val)[i]? := by rw [e]
  rw [List.getElem?_map, List.getElem?_map, h] at e2
  have e3 : fnX' K d.at_ = d.val := Option.some.inj e2
  obtain ⟨kp, c3⟩ := ba (show (PySem.W.keepIn K (.ref (fAd K d.at_)) && _) = true from List.all_eq_true.mp c2 d (List.mem_of_getElem? h))
  unfold fnX' at e3
  cases q : K.lookup (fAd K d.at_) with
  | none => rw [q] at c3; cases c3
  | some o =>
    obtain ⟨oc, od, dt, osl⟩ := o
    rw [q] at c3 e3
    cases dt with
    | func fd =>
      obtain ⟨n1, n2, n3, n4, n5, n6, n7, n8, n9, n10, n11, n12, n13, n14, n15⟩ := fd
      simp only [DefX.val, Option.some.injEq, Prod.mk.injEq] at e3
      obtain ⟨h1, h2, h3, h4, h5, h6, h7, h8, h9⟩ := e3
      have h8' : n8 = .none := by cases n8 <;> first | rfl | cases h8
      have h7' : n7 = [] := by rw [hc] at h7; simpa using h7
      subst h1 h2 h3 h4 h5 h6 h7' h8' h9
      exact ⟨oc, od, osl, n9, n10, n11, n12, n13, n14, rfl, c3, kp⟩
    | _ => cases c3
end
/-! ### classes -/
def eqV2 (a b : Option (Option Value)) : Bool := decide (a = b)
def clsEB (K : PySem.W.Frag) (C : Addr) : Bool := (PySem.W.clsIn K C).isSome && eqO (PySem.W.findIn K (.ref C) "__getattribute__") (some (some (.builtin "BaseException.__getattribute__"))) && eqO (PySem.W.findIn K (.ref C) "__getattr__") (some none) &&
  decide (PySem.W.subIn K (.ref C) (.type "BaseException") = some true) && eqO (PySem.W.findIn K (.ref C) "__class__") (some (some (.builtin "object.__class__"))) &&
  eqO (PySem.W.specialIn K (.builtin "object.__class__") "__get__") (some (some (.builtin "getset_descriptor.__get__"))) && decide (PySem.W.takesIn K (.builtin "object.__class__") = some true) && decide (PySem.W.mroIn K C (.type "object") = some true)
theorem clsEB_ok {K : PySem.W.Frag} {C : Addr} (h : clsEB K C = true) : ClsE K C := by
  unfold clsEB at h
  simp only [Bool.and_eq_true, decide_eq_true_eq] at h
  obtain ⟨⟨⟨⟨⟨⟨⟨h1, h2⟩, h3⟩, h4⟩, h5⟩, h6⟩, h7⟩, h8⟩ := h
  exact ⟨h1, eqO_ok h2, eqO_ok h3, h4, eqO_ok h5, eqO_ok h6, h7, h8⟩
def oexB (K : PySem.W.Frag) (C : Addr) : Bool := (match K.lookup C with
  | some ⟨.type t, _, .cls cd, sl⟩ => (match cd.mro, sl.toList with
    | .ref C' :: bm, [_, _, _, _, some (.builtin n), _] => decide (t = "type") && decide (C' = C) && decide (n = "ValueError.__new__") && !cd.hasDel && cd.hasDict && PySem.HandSPX.refsVE bm
    | _, _ => false)
  | _ => false) && eqO (PySem.W.findIn K (.ref C) "__setattr__") (some (some (.builtin "object.__setattr__"))) && decide (PySem.W.subIn K (.ref C) (.type "BaseException") = some true) && decide (PySem.W.typeIn K (.ref C) = some (.type "type")) && PySem.W.keepIn K (.ref C)
theorem oexB_ok {K : PySem.W.Frag} {C : Addr} (h : oexB K C = true) : OexC K C := by
  unfold oexB at h
  simp only [Bool.and_eq_true, decide_eq_true_eq] at h
  obtain ⟨⟨⟨⟨h1, h2⟩, h3⟩, h4⟩, h5⟩ := h
  refine ⟨?_, eqO_ok h2, h3, h4, h5⟩
  split at h1
  · rename_i t dd cd sl ho
    split at h1
    · rename_i C' bm k0 k1 k2 k3 n k5 hm hs
      simp only [Bool.and_eq_true, decide_eq_true_eq, Bool.not_eq_true'] at h1
      obtain ⟨⟨⟨⟨⟨rfl, rfl⟩, rfl⟩, hdel⟩, hdct⟩, hbm⟩ := h1
      obtain ⟨nm, bs, mro, ns, qn, hd, sn, sub, ab, col, del⟩ := cd
      dsimp only at hm hdel hdct
      subst hm hdel hdct
      have hsl : sl = #[k0, k1, k2, k3, some (.builtin "ValueError.__new__"), k5] := by
        obtain ⟨l⟩ := sl
        simp only at hs
        rw [hs]
      subst hsl
      exact ⟨nm, qn, ns, bs, bm, sn, sub, ab, col, dd, k0, k1, k2, k3, k5, ho, hbm⟩
    · cases h1
  · cases h1
def sysB (K : PySem.W.Frag) : Bool := match K.lookup sysModules with
  | some ⟨.type t, _, _, _⟩ => decide (t = "dict")
  | _ => false
theorem sysB_ok {K : PySem.W.Frag} (h : sysB K = true) : SysOk K := by
  unfold sysB at h
  split at h
  · rename_i t _ _ _ e; have := of_decide_eq_true h; subst this; exact ⟨_, e, rfl⟩
  · cases h
/-- a def that closes over its class -/
theorem SaysX.defC {chk : PySem.W.Frag → Bool} {fn : List DefX} {K : PySem.W.Frag} (c : SaysX chk fn K) {i : Nat} {d : DefX} (h : fn[i]? = some d) (hc : d.clo = [("__class__" : Str)]) :
    ∃ oc od osl kV doc pm an cdv ct cc, K.lookup (fAd K d.at_) = some ⟨oc, od, .func (PySem.W.ksFn d.name d.qual d.params d.body d.scope .none kV doc pm an cdv ct cc), osl⟩ ∧ PySem.W.codeIn K cdv d.qual = true := by
  have c2 := (ba (show (chk K && fn.all fun d => d.ok K) = true from congrArg (fun z : AlX => z.1) c)).2
  have e : fn.map (fun d => fnX' K d.at_) = fn.map DefX.val := congrArg (fun z : AlX => z.2) c
  have e2 : (fn.map fun d => fnX' K d.at_)[i]? = (fn.map DefX.val)[i]? := by rw [e]
  rw [List.getElem?_map, List.getElem?_map, h] at e2
  have e3 : fnX' K d.at_ = d.val := Option.some.inj e2
  obtain ⟨kp, c3⟩ := ba (show (PySem.W.keepIn K (.ref (fAd K d.at_)) && _) = true from List.all_eq_true.mp c2 d (List.mem_of_getElem? h))
  unfold fnX' at e3
  cases q : K.lookup (fAd K d.at_) with
  | none => rw [q] at c3; cases c3
  | some o =>
    obtain ⟨oc, od, dt, osl⟩ := o
    rw [q] at c3 e3
    cases dt with
    | func fd =>
      obtain ⟨n1, n2, n3, n4, n5, n6, n7, n8, n9, n10, n11, n12, n13, n14, n15⟩ := fd
      simp only [DefX.val, Option.some.injEq, Prod.mk.injEq] at e3
      obtain ⟨h1, h2, h3, h4, h5, h6, h7, h8, h9⟩ := e3
      rw [hc] at h7
      rcases n7 with _ | ⟨⟨x, cc⟩, _ | ⟨y, r⟩⟩
      · cases h7
      · have hx : x = ("__class__" : Str) := by simpa using h7
        have h8' : n8 = .none := by cases n8 <;> first | rfl | cases h8
        subst h1 h2 h3 h4 h5 h6 hx h8' h9
        exact ⟨oc, od, osl, n9, n10, n11, n12, n13, n14, cc, rfl, c3⟩
      · simp at h7
    | _ => cases c3
def xiB (P : Program) (K : PySem.W.Frag) : Bool := match K.lookup (fAd K ("StockError", some "__init__")) with
  | some ⟨_, _, .func fd, _⟩ => (match fd.code, fd.closure with
    | .ref cda, [(_, cc)] => (match K.lookup cda with
        | some ⟨_, _, .fields vs, _⟩ => (match (vs[2]? : Option Value) with
          | some (Value.str file _) => (P.main.file : Str) == file
          | _ => false)
        | _ => false) && (match K.lookup cc with
        | some ⟨_, _, .cell (some (.ref D')), _⟩ => decide (D' = ga K "StockError")
        | _ => false)
    | _, _ => false)
  | _ => false
def xcB (K : PySem.W.Frag) (C : Addr) : Bool := oexB K C && eqO (PySem.W.findIn K (.ref C) "__init__") (some (some (.ref (fAd K ("StockError", some "__init__"))))) && decide (PySem.W.mroIn K C (.ref (ga K "StockError")) = some true) &&
  (match PySem.W.clsIn K C with
  | some cd => eqO (PySem.W.alongIn K "__init__" ((cd.mro.dropWhile (· != .ref (ga K "StockError"))).drop 1)) (some (some (.builtin "ValueError.__init__")))
  | none => false) && decide (PySem.W.subIn K (.ref C) (.type "ValueError") = some true) && eqO (PySem.W.findIn K (.ref C) "value") (some none)
def xgB (P : Program) (K : PySem.W.Frag) : Bool := xiB P K && decide (PySem.W.typeIn K (.ref (fAd K ("StockError", some "__init__"))) = some (.type "function")) && (PySem.W.clsIn K (ga K "StockError")).isSome && eqO (PySem.W.nsIn K cStatics "thirdparty.any") (some none) && !(P.main.scope.names.lookup ("super" : Str)).isSome
theorem xf_ok {chk : PySem.W.Frag → Bool} {fn : List DefX} {K : PySem.W.Frag} {P : Program} {C : Addr} {i l : Nat} {qual : Str} {params : Arguments} {ar : Arg} (c : SaysX chk fn K) (hl : l = 5 ∨ l = 8)
    (h : fn[i]? = some ⟨("StockError", some "__init__"), "__init__", qual, params, xBody l, xScope, [("__class__" : Str)]⟩) (har : (params.posonlyargs ++ params.args).head? = some ar) (hn : ar.arg = ("self" : Str))
    (hbind : ∀ (kV doc pm : Value) (an : Option Addr) (cd ct : Value) (cc : Addr) (e u : Value), bindArgs (PySem.W.ksFn "__init__" qual params (xBody l) xScope .none kV doc pm an cd ct cc) ⟨[e, u], []⟩ = pure [(("self" : Str), e), (("value" : Str), u)])
    (g : xgB P K = true) (x : xcB K C = true) : XF P K C := by
  obtain ⟨oc, od, osl, kV, doc, pm, an, cdv, ct, cc, lk, hcd⟩ := c.defC h rfl
  unfold xgB at g
  unfold xcB at x
  simp only [Bool.and_eq_true, decide_eq_true_eq, Bool.not_eq_true'] at g x
  obtain ⟨⟨⟨⟨g1, g2⟩, g3⟩, g4⟩, g5⟩ := g
  obtain ⟨⟨⟨⟨⟨x1, x2⟩, x3⟩, x4⟩, x5⟩, x6⟩ := x
  unfold xiB at g1
  rw [show K.lookup (fAd K ("StockError", some "__init__")) = _ from lk] at g1
  simp only at g1
  cases cdv with
  | ref cda =>
    simp only [Bool.and_eq_true] at g1
    obtain ⟨k1, k2⟩ := g1
    split at k1
    · rename_i ccl cdd vs ccs hco
      split at k1
      · rename_i file tf hvs
        split at k2
        · rename_i cl cld D' csl hce
          have hD := of_decide_eq_true k2
          subst hD
          obtain ⟨cdD, hcD⟩ := Option.isSome_iff_exists.mp g3
          split at x4
          · rename_i cdC hcC
            exact ⟨oexB_ok x1, ⟨_, _, _, _, _, _, _, _, _, _, l, _, _, _, _, _, _, _, _, _, _, _, _, _, _, _, _, _, hl, lk, hcd, eqO_ok x2, g2, ⟨ar, har, hn⟩, fun e u => hbind _ _ _ _ _ _ _ e u, hco, hvs, k1, hce, hcD, x3, hcC, eqO_ok x4⟩, x5, eqO_ok g4, eqO_ok x6, g5⟩
          · cases x4
        · cases k2
      · cases k1
    · cases k1
  | _ => cases g1
end Eg
set_option Elab.async false
set_option linter.all false
set_option maxRecDepth 100000
set_option maxHeartbeats 8000000
/-! the engine: the classes of a law, from the head's facts -/
namespace Eg
open PySem PySem.Spec PyProof.Rows L2 He

/-- one class: its name, whether it is an exception, its instances' fields, isinstance's answers (all classes; tgNs) -/
structure CD where
  name : Str
  isX : Bool
  fl : List Str
  sub : List Bool
  subB : List Bool
  props : List (Nat × Nat) := []
def statOf (cs : List CD) (nms : List Str) : Stat where
  nC := cs.length
  isX c := match cs[c]? with
    | some d => d.isX
    | none => false
  fld c n := match cs[c]? with
    | some d => if d.isX then none else (match nms[n]? with
      | some x => ixOf x d.fl
      | none => none)
    | none => none
  prop c n := match cs[c]? with
    | some d => d.props.lookup n
    | none => none
  meth _ _ := none
  init _ := none
  sub c j := match cs[c]? with
    | some d => d.sub.getD j false
    | none => false
  subB c s := match cs[c]? with
    | some d => ((tgNs.zip d.subB).lookup s).getD false
    | none => false
def wdOf (K : PySem.W.Frag) (cs : List CD) : Wd := ⟨K, fun c => match cs[c]? with
  | some d => ga K d.name
  | none => 0, fun c => match cs[c]? with
  | some d => d.fl
  | none => [], []⟩
def clsIB (K : PySem.W.Frag) (x : Str) : Bool := (Fa.cls x).ok K && eqO (PySem.W.findIn K (.ref (ga K x)) "__class__") (some (some (.builtin "object.__class__"))) &&
  eqO (PySem.W.specialIn K (.builtin "object.__class__") "__get__") (some (some (.builtin "getset_descriptor.__get__"))) && decide (PySem.W.takesIn K (.builtin "object.__class__") = some true) && decide (PySem.W.mroIn K (ga K x) (.type "object") = some true)
theorem clsIB_ok {K : PySem.W.Frag} {x : Str} (h : clsIB K x = true) : ClsI K (ga K x) := by
  unfold clsIB at h
  simp only [Bool.and_eq_true, decide_eq_true_eq] at h
  obtain ⟨⟨⟨⟨h1, h2⟩, h3⟩, h4⟩, h5⟩ := h
  exact ⟨He.cls_ok h1, eqO_ok h2, eqO_ok h3, h4, h5⟩
def clB (K : PySem.W.Frag) (cs : List CD) (nms : List Str) (c : Nat) (d : CD) : Bool :=
  eqO (PySem.W.nsIn K mainGlobals d.name) (some (some (.ref (ga K d.name)))) &&
  (if d.isX then clsEB K (ga K d.name) && eqO (PySem.W.findIn K (.ref (ga K d.name)) "value") (some none) && PySem.W.hasDictIn K (ga K d.name)
   else clsIB K d.name && nms.all fun x => if (ixOf x d.fl).isSome then eqO (PySem.W.findIn K (.ref (ga K d.name)) x) (some none) else true) &&
  ((List.range cs.length).all fun j => match cs[j]? with
    | some e => decide (PySem.W.kitOne K (.ref (ga K d.name)) (.ref (ga K e.name)) = some (d.sub.getD j false))
    | none => false) &&
  (tgNs.all fun s => decide (PySem.W.kitOne K (.ref (ga K d.name)) (.type s) = some (((tgNs.zip d.subB).lookup s).getD false))) &&
  (tyNs.all fun t => decide (PySem.W.kitOne K (.type t) (.ref (ga K d.name)) = some false)) && decide (d.fl.Nodup)
def clsB (K : PySem.W.Frag) (cs : List CD) (nms : List Str) : Bool := (List.range cs.length).all fun c => match cs[c]? with
  | some d => clB K cs nms c d
  | none => false
section
variable {K : PySem.W.Frag} {cs : List CD} {nms : List Str}
theorem clsB_at (h : clsB K cs nms = true) {c : Nat} {d : CD} (hd : cs[c]? = some d) : clB K cs nms c d = true := by
  have hc : c < cs.length := (List.getElem?_eq_some_iff.mp hd).1
  have := List.all_eq_true.mp h c (List.mem_range.mpr hc)
  rw [hd] at this
  exact this
theorem clB_and {c : Nat} {d : CD} (h : clB K cs nms c d = true) : eqO (PySem.W.nsIn K mainGlobals d.name) (some (some (.ref (ga K d.name)))) = true ∧
    (if d.isX then clsEB K (ga K d.name) && eqO (PySem.W.findIn K (.ref (ga K d.name)) "value") (some none) && PySem.W.hasDictIn K (ga K d.name)
     else clsIB K d.name && nms.all fun x => if (ixOf x d.fl).isSome then eqO (PySem.W.findIn K (.ref (ga K d.name)) x) (some none) else true) = true ∧
    (∀ j, j < cs.length → ∃ e, cs[j]? = some e ∧ PySem.W.kitOne K (.ref (ga K d.name)) (.ref (ga K e.name)) = some (d.sub.getD j false)) ∧
    (∀ s ∈ tgNs, PySem.W.kitOne K (.ref (ga K d.name)) (.type s) = some (((tgNs.zip d.subB).lookup s).getD false)) ∧
    (∀ t ∈ tyNs, PySem.W.kitOne K (.type t) (.ref (ga K d.name)) = some false) ∧ d.fl.Nodup := by
  unfold clB at h
  simp only [Bool.and_eq_true] at h
  obtain ⟨⟨⟨⟨⟨h1, h2⟩, h3⟩, h4⟩, h5⟩, h6⟩ := h
  refine ⟨h1, h2, fun j hj => ?_, fun s hs => of_decide_eq_true (List.all_eq_true.mp h4 s hs), fun t ht => of_decide_eq_true (List.all_eq_true.mp h5 t ht), of_decide_eq_true h6⟩
  have := List.all_eq_true.mp h3 j (List.mem_range.mpr hj)
  cases e : cs[j]? with
  | none => rw [e] at this; cases this
  | some e' => rw [e] at this; exact ⟨e', rfl, of_decide_eq_true this⟩
theorem get_of_lt {c : Nat} (h : c < cs.length) : ∃ d, cs[c]? = some d := ⟨_, List.getElem?_eq_getElem h⟩
theorem wokB (h : clsB K cs nms = true) : WOk (wdOf K cs) (statOf cs nms) := by
  refine ⟨fun c hc hx => ?_, fun c hc hx => ?_, fun c hc j hj => ?_, fun c hc s hs => ?_, fun t ht j hj => ?_⟩
  · obtain ⟨d, hd⟩ := get_of_lt hc
    obtain ⟨_, h2, _⟩ := clB_and (clsB_at h hd)
    simp only [statOf, hd] at hx
    simp only [hx, Bool.false_eq_true, if_false, Bool.and_eq_true] at h2
    simp only [wdOf, hd]
    exact clsIB_ok h2.1
  · obtain ⟨d, hd⟩ := get_of_lt hc
    obtain ⟨_, h2, _⟩ := clB_and (clsB_at h hd)
    simp only [statOf, hd] at hx
    simp only [hx, if_true, Bool.and_eq_true] at h2
    simp only [wdOf, hd]
    exact clsEB_ok h2.1.1
  · obtain ⟨d, hd⟩ := get_of_lt hc
    obtain ⟨_, _, h3, _⟩ := clB_and (clsB_at h hd)
    obtain ⟨e, he, k⟩ := h3 j hj
    simp only [wdOf, statOf, hd, he]
    exact k
  · obtain ⟨d, hd⟩ := get_of_lt hc
    obtain ⟨_, _, _, h4, _⟩ := clB_and (clsB_at h hd)
    simp only [wdOf, statOf, hd]
    exact h4 s hs
  · obtain ⟨d, hd⟩ := get_of_lt hj
    obtain ⟨_, _, _, _, h5, _⟩ := clB_and (clsB_at h hd)
    simp only [wdOf, hd]
    exact h5 t ht
theorem fldB (h : clsB K cs nms = true) (nm : Nat → Str) (hnm : ∀ n x, nms[n]? = some x → nm n = x) (hv : nms[0]? = some ("value" : Str)) : FldOk (wdOf K cs) (statOf cs nms) nm := by
  refine ⟨fun c n k hk => ?_, fun c => ?_, hnm 0 _ hv, fun c hx hc => ?_⟩
  · simp only [statOf] at hk
    cases hd : cs[c]? with
    | none => rw [hd] at hk; cases hk
    | some d =>
      rw [hd] at hk
      simp only at hk
      cases hx : d.isX with
      | true => rw [hx] at hk; simp at hk
      | false =>
        rw [hx] at hk
        simp only [Bool.false_eq_true, if_false] at hk
        cases hn : nms[n]? with
        | none => rw [hn] at hk; cases hk
        | some x =>
          rw [hn] at hk
          simp only at hk
          obtain ⟨_, h2, _⟩ := clB_and (clsB_at h hd)
          simp only [hx, Bool.false_eq_true, if_false, Bool.and_eq_true] at h2
          have := List.all_eq_true.mp h2.2 x (List.mem_of_getElem? hn)
          rw [hk] at this
          simp only [Option.isSome_some, if_true] at this
          simp only [wdOf, hd, hnm n x hn]
          exact ⟨(clsIB_ok h2.1).cl, eqO_ok this, ixOf_get hk⟩
  · simp only [wdOf]
    cases hd : cs[c]? with
    | none => exact List.nodup_nil
    | some d => exact (clB_and (clsB_at h hd)).2.2.2.2.2
  · obtain ⟨d, hd⟩ := get_of_lt (cs := cs) hc
    obtain ⟨_, h2, _⟩ := clB_and (clsB_at h hd)
    simp only [statOf, hd] at hx
    simp only [hx, if_true, Bool.and_eq_true] at h2
    simp only [wdOf, hd]
    exact ⟨eqO_ok h2.1.2, h2.2⟩
/-- a class stands for its name -/
theorem clsMg {h : Heap} {mg : Str → Option Value} (X : K.In h) (G : h.Ns mainGlobals mg) (hB : clsB K cs nms = true) {c : Nat} {d : CD} (hd : cs[c]? = some d) : mg d.name = some (.ref ((wdOf K cs).cA c)) := by
  obtain ⟨h1, _⟩ := clB_and (clsB_at hB hd)
  simp only [wdOf, hd]
  exact PySem.W.mg_of X G (eqO_ok h1)
end
/-- the built-ins' names are free -/
def freeB (gs : List (Str × Gk)) (K : PySem.W.Frag) : Bool := (bls.all fun x => if (gs.lookup x).isNone then (Fa.free x).ok K else true) && (Fa.free "super").ok K
theorem freeB_bl {gs : List (Str × Gk)} {K : PySem.W.Frag} {h : Heap} {mg : Str → Option Value} (X : K.In h) (G : h.Ns mainGlobals mg) (c : freeB gs K = true) {x : Str} (hx : bls.contains x = true) (hn : gs.lookup x = none) : mg x = none := by
  have := List.all_eq_true.mp (ba c).1 x (List.contains_iff_mem.mp hx)
  rw [hn] at this
  exact free_ok X G this
theorem freeB_sup {gs : List (Str × Gk)} {K : PySem.W.Frag} {h : Heap} {mg : Str → Option Value} (X : K.In h) (G : h.Ns mainGlobals mg) (c : freeB gs K = true) : mg "super" = none := free_ok X G (ba c).2
end Eg
set_option Elab.async false
set_option linter.all false
set_option maxRecDepth 100000
set_option maxHeartbeats 8000000
/-! the engine: all defs of a law keep the promises of the evaluator -/
namespace Eg
open PySem PySem.Spec PyProof.Rows L2 He

/-- a def: its data, its names, its parameters, what it is compiled to -/
structure LDef where
  d : DefX
  N : List Str
  ps : List Str
  fn : Fn
structure LDef.Good (gt : Gt) (l : LDef) : Prop where
  sc : FnScope l.N l.ps l.d.scope
  np : l.fn.np = l.ps.length
  nl : l.fn.nl = l.N.length
  cmp : ∃ m, cSs gt ⟨l.N, l.d.scope.names, l.d.scope.names⟩ m l.d.body = some l.fn.body
  clo : l.d.clo = []
  bnd : ∀ (kV doc pm : Value) (an : Option Addr) (cdv ct : Value) (us : List Value), us.length = l.ps.length → bindArgs (PySem.W.fnOf l.d.name l.d.qual l.d.params l.d.body l.d.scope .none kV doc pm an cdv ct) ⟨us, []⟩ = pure (l.ps.zip us)
/-- the table's own law -/
def gs1 (cs : List CD) (defs : List LDef) (x : Str) (g : Gk) : Bool := match g with
  | .fn f => (match defs[f]? with
    | some l => decide (l.d.at_ = (x, none))
    | none => false)
  | .exc c => (match cs[c]? with
    | some d => decide (d.name = x)
    | none => false)
  | .cls c => (match cs[c]? with
    | some d => decide (d.name = x)
    | none => false)
def gsOk (cs : List CD) (defs : List LDef) (gs : List (Str × Gk)) : Bool := gs.all fun p => gs1 cs defs p.1 p.2
def gloB (gs : List (Str × Gk)) (K : PySem.W.Frag) : Bool := gs.all fun p => (Fa.glo p.1).ok K
def chkX (cs : List CD) (nms : List Str) (gs : List (Str × Gk)) (K : PySem.W.Frag) : Bool := clsB K cs nms && (freeB gs K && (sysB K && gloB gs K))
/-- what a law's defs stand on -/
structure LawB (K : PySem.W.Frag) (P : Program) (cs : List CD) (nms : List Str) (gs : List (Str × Gk)) (ow : List (List Bool)) (defs : List LDef) : Prop where
  chk : chkX cs nms gs K = true
  def_ : ∀ (f : Nat) (l : LDef), defs[f]? = some l → ∃ oc od osl kV doc pm an cdv ct, K.lookup (fAd K l.d.at_) = some ⟨oc, od, .func (PySem.W.fnOf l.d.name l.d.qual l.d.params l.d.body l.d.scope .none kV doc pm an cdv ct), osl⟩ ∧ PySem.W.codeIn K cdv l.d.qual = true ∧ PySem.W.keepIn K (.ref (fAd K l.d.at_)) = true
  good : ∀ (f : Nat) (l : LDef), defs[f]? = some l → l.Good ⟨gs, nms, ow⟩
  tab : gsOk cs defs gs = true
  xf : ∀ (x : Str) (c : Nat) (d : CD), gs.lookup x = some (.exc c) → cs[c]? = some d → XF P K (ga K d.name)
  val : nms[0]? = some ("value" : Str)
  prop : ∀ d ∈ cs, d.props = []
section
variable {K : PySem.W.Frag} {P : Program} {cs : List CD} {nms : List Str} {gs : List (Str × Gk)} {ow : List (List Bool)} {defs : List LDef}
theorem LawB.cls (B : LawB K P cs nms gs ow defs) : clsB K cs nms = true := (ba B.chk).1
theorem LawB.free (B : LawB K P cs nms gs ow defs) : freeB gs K = true := (ba (ba B.chk).2).1
theorem LawB.sys (B : LawB K P cs nms gs ow defs) : sysB K = true := (ba (ba (ba B.chk).2).2).1
theorem LawB.glo (B : LawB K P cs nms gs ow defs) {x : Str} {g : Gk} (h : gs.lookup x = some g) : eqO (PySem.W.nsIn K mainGlobals x) (some (some (.ref (ga K x)))) = true := by
  have := (ba (ba (ba B.chk).2).2).2
  exact List.all_eq_true.mp this (x, g) (PySem.mem_of_lookup h)
theorem LawB.tabAt (B : LawB K P cs nms gs ow defs) {x : Str} {g : Gk} (h : gs.lookup x = some g) : gs1 cs defs x g = true := List.all_eq_true.mp B.tab (x, g) (PySem.mem_of_lookup h)
/-- every def, to every depth -/
theorem LawB.fnE (B : LawB K P cs nms gs ow defs) {w : World} {mg : Str → Option Value} {base : Heap} (X : K.In base) (G : base.Ns mainGlobals mg) (n : Nat) :
    ∀ (k f : Nat) (l : LDef), defs[f]? = some l → ∀ {oc : Value} {od : Option Addr} {osl : Array (Option Value)} {kV doc pm : Value} {an : Option Addr} {cdv ct : Value},
      K.lookup (fAd K l.d.at_) = some ⟨oc, od, .func (PySem.W.fnOf l.d.name l.d.qual l.d.params l.d.body l.d.scope .none kV doc pm an cdv ct), osl⟩ → PySem.W.codeIn K cdv l.d.qual = true →
      FnE (wdOf K cs) P w mg base (3 * k + 7) (fAd K l.d.at_) (PySem.W.fnOf l.d.name l.d.qual l.d.params l.d.body l.d.scope .none kV doc pm an cdv ct) l.ps (evF (statOf cs nms) reprD n (defs.map (·.fn)) k f)
  | k, f, l, hl, oc, od, osl, kV, doc, pm, an, cdv, ct, lk, hcd => by
    have gd := B.good f l hl
    match k with
    | 0 => exact ⟨fun args nb => absurd rfl nb, fun A outer s H as us vs args In Q E _ _ _ _ _ _ _ _ hq => hq.elim⟩
    | k + 1 =>
      obtain ⟨m, hm⟩ := gd.cmp
      have e : evF (statOf cs nms) reprD n (defs.map (·.fn)) (k + 1) f = evFn (statOf cs nms) reprD n (evF (statOf cs nms) reprD n (defs.map (·.fn)) k) l.fn := by
        funext args
        simp only [evF, List.getElem?_map, hl, Option.map_some]
      rw [e]
      refine fnE_of (k := 3 * k + 9) lk hcd gd.sc gd.np gd.nl fun A outer s H E io hr hg => ?_
      refine ok_Ss m (passes_of rfl) ⟨rfl, rfl, gd.sc.nd, takes_of rfl rfl rfl rfl, ?_, hg⟩ ⟨fun x f' h => ?_, fun x c h => ?_, fun x c h => ?_, freeB_sup X G B.free, fun x hx hn => freeB_bl X G B.free hx hn, wokB B.cls, fldB B.cls _ (fun n x h => ?_) B.val, ⟨fun c n f' h => ?_⟩, ?_, sysB_ok B.sys⟩ ⟨rfl, rfl, gd.sc.kind, fun x h => ?_⟩ hm
      · have := hr.un; show A.units + 3 + 300 < _; omega
      · have t := B.tabAt h
        simp only [gs1] at t
        cases hf : defs[f']? with
        | none => rw [hf] at t; cases t
        | some l' =>
          rw [hf] at t
          have at_ : l'.d.at_ = (x, none) := of_decide_eq_true t
          obtain ⟨oc', od', osl', kV', doc', pm', an', cdv', ct', lk', hcd', hkp'⟩ := B.def_ f' l' hf
          have h1 := B.fnE (w := w) X G n k f' l' hf lk' hcd'
          have h3 : Binds K (PySem.W.fnOf l'.d.name l'.d.qual l'.d.params l'.d.body l'.d.scope .none kV' doc' pm' an' cdv' ct') l'.ps [] := .all ((B.good f' l' hf).bnd kV' doc' pm' an' cdv' ct')
          have ea : fAd K l'.d.at_ = ga K x := by rw [at_]; rfl
          rw [ea] at h1 hkp'
          exact ⟨ga K x, PySem.W.mg_of X G (eqO_ok (B.glo h)), ⟨_, _, _, h1, hr.deeper _, h3⟩, hkp'⟩
      · have t := B.tabAt h
        simp only [gs1] at t
        cases hc : cs[c]? with
        | none => rw [hc] at t; cases t
        | some d =>
          rw [hc] at t
          have hn : d.name = x := of_decide_eq_true t
          subst hn
          have ec : (wdOf K cs).cA c = ga K d.name := by simp only [wdOf, hc]
          rw [ec]
          exact ⟨PySem.W.mg_of X G (eqO_ok (B.glo h)), B.xf _ c d h hc⟩
      · have t := B.tabAt h
        simp only [gs1] at t
        cases hc : cs[c]? with
        | none => rw [hc] at t; cases t
        | some d =>
          rw [hc] at t
          have hn : d.name = x := of_decide_eq_true t
          subst hn
          exact clsMg X G B.cls hc
      · show (nms[n]?).getD "" = x
        rw [h]; rfl
      · simp only [statOf] at h
        cases hc : cs[c]? with
        | none => rw [hc] at h; cases h
        | some d =>
          rw [hc] at h
          simp only [B.prop d (List.mem_of_getElem? hc)] at h
          cases h
      · have := hr.dp; show A.depth + 1 + 1 < _; omega
      · have h' : isLoc l.d.scope.names x = true := h
        refine ⟨?_, .inl rfl⟩
        unfold isLoc at h'
        split at h'
        · rename_i e'; exact .inl e'
        · rename_i e'; exact .inr e'
        · cases h'
end
end Eg
namespace Eg
open PySem PySem.Spec PyProof.Rows L2 He
/-! ### a law's text by places -/
def cdX (n : Nat) (nm : Str) (isX : Bool) (fl : List Str) (an : List Nat) : CD := ⟨nm, isX, fl, (List.range n).map fun j => an.contains j, tgNs.map fun s => isX && s == "ValueError", []⟩
def locsOf (sc : Scope) : List Str := (sc.names.filter fun p => match p.2 with
  | .local => true
  | .cell => true
  | _ => false).map (·.1)
def parsOf (a : Arguments) : List Str := a.args.map (·.arg)
def ldX (gt : Gt) (st : Stmt) (at_ : Str × Option Str) (name qual : Str) (ex : List Str) (kp : List Nat) : LDef :=
  ⟨⟨at_, name, qual, defArgs st, defBody st, defScope st, []⟩, locsOf (defScope st) ++ ex, parsOf (defArgs st),
    ⟨(parsOf (defArgs st)).length, (locsOf (defScope st) ++ ex).length, kp, (cSs gt ⟨locsOf (defScope st) ++ ex, (defScope st).names, (defScope st).names⟩ 400 (defBody st)).getD .nil⟩⟩
end Eg
set_option Elab.async false
set_option linter.all false
set_option maxRecDepth 100000
set_option maxHeartbeats 0
namespace L78
open PySem PySem.Spec PyProof.Rows L2 He Eg
abbrev pw : Program := PySem.Challenge.pw_unseenstocks_k78_errors_keep_their_value
def top (i : Nat) : Stmt := pw.main.body.getD i (.Pass ⟨0, 0, 0, 0⟩)
def cs : List CD := [cdX 28 "StockError" true [] [0], cdX 28 "BadBook" true [] [0, 1], cdX 28 "NoJob" true [] [0, 2], cdX 28 "BadFact" true [] [0, 3], cdX 28 "Full" true [] [0, 4], cdX 28 "NoFact" true [] [0, 5], cdX 28 "OtherJobs" true [] [0, 6], cdX 28 "BadRow" true [] [0, 7]] ++ [cdX 28 "BadDay" true [] [0, 8], cdX 28 "BadStocks" true [] [0, 9], cdX 28 "NoStock" true [] [0, 10], cdX 28 "BadStanding" true [] [0, 11], cdX 28 "NoShop" true [] [0, 12], cdX 28 "BadClaim" true [] [0, 13], cdX 28 "NotSure" true [] [0, 14], cdX 28 "BadLap" true [] [0, 15]] ++ [cdX 28 "BadLot" true [] [0, 16], cdX 28 "BadEvents" true [] [0, 17], cdX 28 "BadTasks" true [] [0, 18], cdX 28 "BadOffers" true [] [0, 19], cdX 28 "BadEvent" true [] [0, 20], cdX 28 "Contrary" true [] [0, 21], cdX 28 "BadNumber" true [] [0, 22], cdX 28 "NothingToUndo" true [] [0, 23]] ++ [cdX 28 "NothingToRedo" true [] [0, 24], cdX 28 "NoTrial" true [] [0, 25], cdX 28 "BadJournal" true [] [0, 26], cdX 28 "BadLine" true [] [0, 27]]
def gs0 : List (Str × Gk) := [("_law_pot", .fn 0), ("_law_take", .fn 1), ("_law_of", .fn 2), ("_law_cells", .fn 3), ("_law_odd", .fn 4), ("_law_made", .fn 5), ("_law_marks", .fn 6), ("_law_right", .fn 7)]
def gs1 : List (Str × Gk) := [("StockError", .exc 0), ("BadBook", .exc 1), ("NoJob", .exc 2), ("BadFact", .exc 3), ("Full", .exc 4), ("NoFact", .exc 5), ("OtherJobs", .exc 6), ("BadRow", .exc 7)]
def gs2 : List (Str × Gk) := [("BadDay", .exc 8), ("BadStocks", .exc 9), ("NoStock", .exc 10), ("BadStanding", .exc 11), ("NoShop", .exc 12), ("BadClaim", .exc 13), ("NotSure", .exc 14), ("BadLap", .exc 15)]
def gs3 : List (Str × Gk) := [("BadLot", .exc 16), ("BadEvents", .exc 17), ("BadTasks", .exc 18), ("BadOffers", .exc 19), ("BadEvent", .exc 20), ("Contrary", .exc 21), ("BadNumber", .exc 22), ("NothingToUndo", .exc 23)]
def gs4 : List (Str × Gk) := [("NothingToRedo", .exc 24), ("NoTrial", .exc 25), ("BadJournal", .exc 26), ("BadLine", .exc 27)]
def gs : List (Str × Gk) := gs0 ++ gs1 ++ gs2 ++ gs3 ++ gs4
/- defs: 30 _law_pot; 31 _law_take; 32 _law_of; 33 _law_cells; 34 _law_odd; 35 _law_made; 36 _law_marks; 37 _law_right; 38 law -/
def names0 : List Str := ["StockError", "BadBook", "NoJob", "BadFact", "Full", "NoFact", "OtherJobs", "BadRow"]
def names1 : List Str := ["BadDay", "BadStocks", "NoStock", "BadStanding", "NoShop", "BadClaim", "NotSure", "BadLap"]
def names2 : List Str := ["BadLot", "BadEvents", "BadTasks", "BadOffers", "BadEvent", "Contrary", "BadNumber", "NothingToUndo"]
def names3 : List Str := ["NothingToRedo", "NoTrial", "BadJournal", "BadLine", "_law_pot", "_law_take", "_law_of", "_law_cells"]
def names4 : List Str := ["_law_odd", "_law_made", "_law_marks", "_law_right"]
def names : List Str := names0 ++ names1 ++ names2 ++ names3 ++ names4
def nms : List Str := ["value"]
def ow : List (List Bool) := [[], [true], [true], [], [true], [], [], [true], []]
def gt : Gt := ⟨gs, nms, ow⟩
def dPot : LDef := ldX gt (top 30) ("_law_pot", none) "_law_pot" "_law_pot" [] []
def dTake : LDef := ldX gt (top 31) ("_law_take", none) "_law_take" "_law_take" [] []
def dOf : LDef := ldX gt (top 32) ("_law_of", none) "_law_of" "_law_of" [] []
def dCells : LDef := ldX gt (top 33) ("_law_cells", none) "_law_cells" "_law_cells" [] []
def dOdd : LDef := ldX gt (top 34) ("_law_odd", none) "_law_odd" "_law_odd" [] []
def dMade : LDef := ldX gt (top 35) ("_law_made", none) "_law_made" "_law_made" [] [1]
def dMarks : LDef := ldX gt (top 36) ("_law_marks", none) "_law_marks" "_law_marks" [] [1]
def dRight : LDef := ldX gt (top 37) ("_law_right", none) "_law_right" "_law_right" ["_law_at"] []
def dLaw : LDef := ldX gt (top 38) ("law", none) "law" "law" ["_law_place"] []
def okc (st : Stmt) (l : LDef) : Bool := (cSs gt ⟨l.N, (defScope st).names, (defScope st).names⟩ 400 (defBody st)).isSome
theorem o30 : okc (top 30) dPot = true := by decide +kernel
theorem o31 : okc (top 31) dTake = true := by decide +kernel
theorem o32 : okc (top 32) dOf = true := by decide +kernel
theorem o33 : okc (top 33) dCells = true := by decide +kernel
theorem o34 : okc (top 34) dOdd = true := by decide +kernel
theorem o35 : okc (top 35) dMade = true := by decide +kernel
theorem o36 : okc (top 36) dMarks = true := by decide +kernel
theorem o37 : okc (top 37) dRight = true := by decide +kernel
theorem o38 : okc (top 38) dLaw = true := by decide +kernel
end L78
set_option Elab.async false
set_option linter.all false
set_option maxRecDepth 100000
set_option maxHeartbeats 0
namespace L78
open PySem PySem.Spec PyProof.Rows L2 He Eg
def sInit : Stmt := L2.inClass (top 1) 0
def dInit : DefX := ⟨("StockError", some "__init__"), "__init__", "StockError.__init__", defArgs sInit, xBody 5, xScope, ["__class__"]⟩
def defs : List LDef := [dPot, dTake, dOf, dCells, dOdd, dMade, dMarks, dRight, dLaw]
def fnl : List DefX := dInit :: defs.map (·.d)
def chk (K : PySem.W.Frag) : Bool := chkX cs nms gs K && (xgB pw K && cs.all fun d => xcB K (ga K d.name)) && (Fa.glo "law").ok K
abbrev R : PySem.W.OpenRow := PySem.W.OpenLaw.row PySem.Challenge.rw_unseenstocks_k78_errors_keep_their_value
abbrev hk : PySem.W.Hook := hookX 4 chk fnl
def ob (s : PySem.W.SharedT) : AlX := obsXG 4 chk fnl (HandSHeadRun.getT s)
theorem ob_eq (s : PySem.W.SharedT) : ob s = hk.obs s.abs := obsXG_eq (HandSHeadRun.getT_eq s)
theorem run (w : World) : HandSHeadRun.RunEq R (PySem.W.view R.prog [38]) hk ob 20000 names w := by
  intro os
  kernel_rfl
end L78
set_option Elab.async false
set_option linter.all false
set_option maxRecDepth 100000
set_option maxHeartbeats 0
namespace L78
open PySem PySem.Spec PyProof.Rows L2 He Eg
theorem good_of {st : Stmt} {at_ : Str × Option Str} {name qual : Str} {ex : List Str} {kp : List Nat} (l : LDef) (e : l = ldX gt st at_ name qual ex kp) (h1 : okc st l = true) (sc : FnScope l.N l.ps l.d.scope)
    (bnd : ∀ (kV doc pm : Value) (an : Option Addr) (cdv ct : Value) (us : List Value), us.length = l.ps.length → bindArgs (PySem.W.fnOf l.d.name l.d.qual l.d.params l.d.body l.d.scope .none kV doc pm an cdv ct) ⟨us, []⟩ = pure (l.ps.zip us)) : l.Good gt := by
  subst e
  refine ⟨sc, rfl, rfl, ⟨400, ?_⟩, rfl, bnd⟩
  obtain ⟨ir, hir⟩ := Option.isSome_iff_exists.mp h1
  have e : cSs gt ⟨locsOf (defScope st) ++ ex, (defScope st).names, (defScope st).names⟩ 400 (defBody st) = some ir := hir
  show cSs gt ⟨locsOf (defScope st) ++ ex, (defScope st).names, (defScope st).names⟩ 400 (defBody st) = some ((cSs gt ⟨locsOf (defScope st) ++ ex, (defScope st).names, (defScope st).names⟩ 400 (defBody st)).getD .nil)
  rw [e]
  rfl
theorem g0 : dPot.Good gt := good_of dPot rfl o30 ⟨by kernel_rfl, by kernel_rfl, by kernel_rfl, by decide +kernel, by kernel_rfl, by decide +kernel, by decide +kernel⟩ fun _ _ _ _ _ _ us hl => match us, hl with | [_, _], _ => by kernel_rfl
theorem g1 : dTake.Good gt := good_of dTake rfl o31 ⟨by kernel_rfl, by kernel_rfl, by kernel_rfl, by decide +kernel, by kernel_rfl, by decide +kernel, by decide +kernel⟩ fun _ _ _ _ _ _ us hl => match us, hl with | [_, _], _ => by kernel_rfl
theorem g2 : dOf.Good gt := good_of dOf rfl o32 ⟨by kernel_rfl, by kernel_rfl, by kernel_rfl, by decide +kernel, by kernel_rfl, by decide +kernel, by decide +kernel⟩ fun _ _ _ _ _ _ us hl => match us, hl with | [_, _], _ => by kernel_rfl
theorem g3 : dCells.Good gt := good_of dCells rfl o33 ⟨by kernel_rfl, by kernel_rfl, by kernel_rfl, by decide +kernel, by kernel_rfl, by decide +kernel, by decide +kernel⟩ fun _ _ _ _ _ _ us hl => match us, hl with | [_, _], _ => by kernel_rfl
theorem g4 : dOdd.Good gt := good_of dOdd rfl o34 ⟨by kernel_rfl, by kernel_rfl, by kernel_rfl, by decide +kernel, by kernel_rfl, by decide +kernel, by decide +kernel⟩ fun _ _ _ _ _ _ us hl => match us, hl with | [_], _ => by kernel_rfl
theorem g5 : dMade.Good gt := good_of dMade rfl o35 ⟨by kernel_rfl, by kernel_rfl, by kernel_rfl, by decide +kernel, by kernel_rfl, by decide +kernel, by decide +kernel⟩ fun _ _ _ _ _ _ us hl => match us, hl with | [_], _ => by kernel_rfl
theorem g6 : dMarks.Good gt := good_of dMarks rfl o36 ⟨by kernel_rfl, by kernel_rfl, by kernel_rfl, by decide +kernel, by kernel_rfl, by decide +kernel, by decide +kernel⟩ fun _ _ _ _ _ _ us hl => match us, hl with | [_], _ => by kernel_rfl
theorem g7 : dRight.Good gt := good_of dRight rfl o37 ⟨by kernel_rfl, by kernel_rfl, by kernel_rfl, by decide +kernel, by kernel_rfl, by decide +kernel, by decide +kernel⟩ fun _ _ _ _ _ _ us hl => match us, hl with | [_], _ => by kernel_rfl
theorem g8 : dLaw.Good gt := good_of dLaw rfl o38 ⟨by kernel_rfl, by kernel_rfl, by kernel_rfl, by decide +kernel, by kernel_rfl, by decide +kernel, by decide +kernel⟩ fun _ _ _ _ _ _ us hl => match us, hl with | [_], _ => by kernel_rfl
theorem goods : ∀ (f : Nat) (l : LDef), defs[f]? = some l → l.Good gt
  | 0, _, h => by cases h; exact g0
  | 1, _, h => by cases h; exact g1
  | 2, _, h => by cases h; exact g2
  | 3, _, h => by cases h; exact g3
  | 4, _, h => by cases h; exact g4
  | 5, _, h => by cases h; exact g5
  | 6, _, h => by cases h; exact g6
  | 7, _, h => by cases h; exact g7
  | 8, _, h => by cases h; exact g8
  | n + 9, _, h => by cases h
theorem lawB {K : PySem.W.Frag} (c : SaysX chk fnl K) : LawB K pw cs nms gs ow defs := by
  obtain ⟨a1, a3⟩ := ba c.all
  obtain ⟨a1, a2⟩ := ba a1
  obtain ⟨a4, a5⟩ := ba a2
  refine ⟨a1, fun f l h => ?_, goods, by decide +kernel, fun x k d _ h => ?_, by decide +kernel, by decide +kernel⟩
  · have h' : fnl[f + 1]? = some l.d := by
      show (defs.map (·.d))[f]? = some l.d
      rw [List.getElem?_map, h]; rfl
    exact c.def_ h' (goods f l h).clo
  · exact xf_ok (i := 0) (l := 5) c (.inl rfl) rfl (ar := (defArgs sInit).args.headD ⟨"", none, ⟨0, 0, 0, 0⟩⟩) (by kernel_rfl) (by kernel_rfl) (fun _ _ _ _ _ _ _ _ _ => by kernel_rfl) a4 (List.all_eq_true.mp a5 d (List.mem_of_getElem? h))
end L78
set_option Elab.async false
set_option linter.all false
set_option maxRecDepth 100000
set_option maxHeartbeats 0
namespace L78
open PySem PySem.Spec PyProof.Rows L2 He Eg
/- ow: [[], [true], [true], [], [true], [], [], [true], []] -/
/- _law_pot: 30: ['_law_script', '_law_place', '_law_cell', '_law_own', '_law_small'] + [] -/
def bPot : Sts :=
  (.cons (.asg 2 (.ite (.ex (.cmp .Lt (.var 1) (.bi .len (.cons false (.var 0) .nil)))) (.ix (.var 0) (.var 1)) (.bin .Add (.bin .Mult (.cst (.int 329)) (.var 1)) (.cst (.int 137)))))
  (.cons (.asg 3 (.bin .Mult (.bin .Mod (.bi .int (.cons false (.bi .abs (.cons false (.var 2) .nil)) .nil)) (.bin .Pow (.bin .Pow (.cst (.int 10)) (.cst (.int 60))) (.cst (.int 5)))) (.bi .int (.cons false (.cmp .GtE (.bi .abs (.cons false (.var 2) .nil)) (.bin .Pow (.cst (.int 10)) (.cst (.int 18)))) .nil))))
  (.cons (.asg 4 (.bin .Mod (.bi .int (.cons false (.var 2) .nil)) (.cst (.int 2305843009213693951))))
  (.cons (.ret (.lst (.cons false (.var 3) (.cons false (.bin .Mod (.bi .int (.cons false (.bin .Add (.bin .Add (.bin .Mult (.var 4) (.cst (.int 76525))) (.bin .Mult (.bin .Mult (.cst (.int 8585)) (.var 1)) (.var 1))) (.cst (.int 305))) .nil)) (.cst (.int 2305843009213693921))) (.cons false (.cst (.int 0)) .nil)))))
  .nil))))
/- _law_take: 31: ['_law_pot_here', '_law_upto', '_law_digit', '_law_prime', '_law_mixed'] + [] -/
def bTake : Sts :=
  (.cons (.ifs (.ex (.cmp .Gt (.ix (.var 0) (.cst (.int 0))) (.cst (.int 0)))) (.cons (.asg 2 (.bin .Mod (.bi .int (.cons false (.ix (.var 0) (.cst (.int 0))) .nil)) (.var 1)))
  (.cons (.asgI 0 (.cst (.int 0)) (.bin .FloorDiv (.ix (.var 0) (.cst (.int 0))) (.var 1)))
  (.cons (.ret (.var 2))
  .nil))) .nil)
  (.cons (.asgI 0 (.cst (.int 2)) (.bin .Add (.ix (.var 0) (.cst (.int 2))) (.cst (.int 1))))
  (.cons (.asg 3 (.ix (.lst (.cons false (.cst (.int 2147483647)) (.cons false (.cst (.int 2147483629)) (.cons false (.cst (.int 2147483587)) (.cons false (.cst (.int 2147483579)) (.cons false (.cst (.int 2147483563)) .nil)))))) (.bin .Mod (.bi .int (.cons false (.ix (.var 0) (.cst (.int 2))) .nil)) (.cst (.int 5)))))
  (.cons (.asg 4 (.bin .Mod (.bi .int (.cons false (.bin .Pow (.bi .int (.cons false (.bin .Add (.bin .Add (.ix (.var 0) (.cst (.int 1))) (.bin .Mult (.bin .Mult (.cst (.int 104087)) (.ix (.var 0) (.cst (.int 2)))) (.ix (.var 0) (.cst (.int 2))))) (.cst (.int 145))) .nil)) (.cst (.int 3))) .nil)) (.var 3)))
  (.cons (.asg 4 (.bin .Mod (.bi .int (.cons false (.bin .Mult (.var 4) (.bin .Add (.bin .Mod (.bi .int (.cons false (.var 4) .nil)) (.cst (.int 10259))) (.bin .Mult (.cst (.int 205)) (.ix (.var 0) (.cst (.int 2)))))) .nil)) (.cst (.int 2305843009213693907))))
  (.cons (.ret (.bin .Mod (.bi .int (.cons false (.bin .FloorDiv (.var 4) (.cst (.int 137))) .nil)) (.var 1)))
  .nil))))))
/- _law_of: 32: ['_law_pot_here', '_law_some'] + [] -/
def bOf : Sts :=
  (.cons (.ret (.ix (.var 1) (.call 1 (.cons false (.var 0) (.cons true (.bi .len (.cons false (.var 1) .nil)) .nil)))))
  .nil)
/- _law_cells: 33: ['_law_script', '_law_most'] + [] -/
def bCells : Sts :=
  (.cons (.ret (.lrng (.rng1 (.bi .max2 (.cons false (.cst (.int 1)) (.cons false (.bi .min2 (.cons false (.var 1) (.cons false (.bi .len (.cons false (.var 0) .nil)) .nil))) .nil))))))
  .nil)
/- _law_odd: 34: ['_law_pot_here', '_law_some', '_law_more'] + [] -/
def bOdd : Sts :=
  (.cons (.asg 1 (.lst (.cons false (.cst .non) (.cons false (.cst (.bl true)) (.cons false (.cst (.bl false)) (.cons false (.cst (.int 0)) (.cons false (.cst (.int 1)) (.cons false (.neg (.cst (.int 1))) (.cons false (.cst (.int 41)) (.cons false (.bin .Pow (.cst (.int 10)) (.cst (.int 8))) (.cons false (.cst (.str "")) (.cons false (.cst (.str "a")) (.cons false (.cst (.str "begin")) (.cons false (.cst (.str "let")) (.cons false (.tup .nil) (.cons false (.lst .nil) (.cons false (.dic [] .nil) (.cons false (.tup (.cons false (.cst (.int 0)) .nil)) (.cons false (.tup (.cons false (.tup .nil) .nil)) (.cons false (.lst (.cons false (.cst (.int 0)) .nil)) .nil))))))))))))))))))))
  (.cons (.asg 2 (.lst (.cons false (.tup (.cons false (.tup (.cons false (.cst (.int 0)) (.cons false (.cst (.int 0)) .nil))) .nil)) (.cons false (.tup (.cons false (.tup (.cons false (.cst (.str "begin")) (.cons false (.cst (.str "a")) .nil))) .nil)) (.cons false (.tup (.cons false (.cst (.str "let")) (.cons false (.tup (.cons false (.tup (.cons false (.cst (.int 0)) (.cons false (.cst (.int 0)) .nil))) .nil)) .nil))) (.cons false (.tup (.cons false (.cst (.int 1)) (.cons false (.tup .nil) (.cons false (.tup .nil) .nil)))) (.cons false (.tup (.cons false (.cst (.str "never")) .nil)) (.cons false (.cst (.str "always")) (.cons false (.tup (.cons false (.cst (.str "a")) .nil)) .nil)))))))))
  (.cons (.ret (.call 2 (.cons false (.var 0) (.cons true (.bin .Add (.bin .Add (.var 1) (.var 2)) (.lst (.cons false (.dic [.inr "a"] (.cons false (.cst (.int 1)) .nil)) .nil))) .nil))))
  .nil)))
/- _law_made: 35: ['_law_value', '_law_found'] + [] -/
def bMade : Sts :=
  (.cons (.asg 1 (.lst (.cons false (.mkexc 1 (.var 0)) (.cons false (.mkexc 2 (.var 0)) (.cons false (.mkexc 3 (.var 0)) (.cons false (.mkexc 4 (.var 0)) (.cons false (.mkexc 5 (.var 0)) (.cons false (.mkexc 6 (.var 0)) (.cons false (.mkexc 7 (.var 0)) .nil)))))))))
  (.cons (.ext 1 (.lst (.cons false (.mkexc 8 (.var 0)) (.cons false (.mkexc 9 (.var 0)) (.cons false (.mkexc 10 (.var 0)) (.cons false (.mkexc 11 (.var 0)) (.cons false (.mkexc 12 (.var 0)) (.cons false (.mkexc 13 (.var 0)) .nil))))))))
  (.cons (.ext 1 (.lst (.cons false (.mkexc 14 (.var 0)) (.cons false (.mkexc 15 (.var 0)) (.cons false (.mkexc 16 (.var 0)) (.cons false (.mkexc 17 (.var 0)) (.cons false (.mkexc 18 (.var 0)) (.cons false (.mkexc 19 (.var 0)) .nil))))))))
  (.cons (.ext 1 (.lst (.cons false (.mkexc 20 (.var 0)) (.cons false (.mkexc 21 (.var 0)) (.cons false (.mkexc 22 (.var 0)) (.cons false (.mkexc 23 (.var 0)) (.cons false (.mkexc 24 (.var 0)) .nil)))))))
  (.cons (.ret (.bin .Add (.var 1) (.lst (.cons false (.mkexc 25 (.var 0)) (.cons false (.mkexc 26 (.var 0)) (.cons false (.mkexc 27 (.var 0)) .nil))))))
  .nil)))))
/- _law_marks: 36: ['_law_error', '_law_found'] + [] -/
def bMarks : Sts :=
  (.cons (.asg 1 (.lst (.cons false (.isi (.var 0) (.inl 1)) (.cons false (.isi (.var 0) (.inl 2)) (.cons false (.isi (.var 0) (.inl 3)) (.cons false (.isi (.var 0) (.inl 4)) .nil))))))
  (.cons (.ext 1 (.lst (.cons false (.isi (.var 0) (.inl 5)) (.cons false (.isi (.var 0) (.inl 6)) (.cons false (.isi (.var 0) (.inl 7)) .nil)))))
  (.cons (.ext 1 (.lst (.cons false (.isi (.var 0) (.inl 8)) (.cons false (.isi (.var 0) (.inl 9)) (.cons false (.isi (.var 0) (.inl 10)) .nil)))))
  (.cons (.ext 1 (.lst (.cons false (.isi (.var 0) (.inl 11)) (.cons false (.isi (.var 0) (.inl 12)) (.cons false (.isi (.var 0) (.inl 13)) .nil)))))
  (.cons (.ext 1 (.lst (.cons false (.isi (.var 0) (.inl 14)) (.cons false (.isi (.var 0) (.inl 15)) (.cons false (.isi (.var 0) (.inl 16)) .nil)))))
  (.cons (.ext 1 (.lst (.cons false (.isi (.var 0) (.inl 17)) (.cons false (.isi (.var 0) (.inl 18)) (.cons false (.isi (.var 0) (.inl 19)) .nil)))))
  (.cons (.ext 1 (.lst (.cons false (.isi (.var 0) (.inl 20)) (.cons false (.isi (.var 0) (.inl 21)) (.cons false (.isi (.var 0) (.inl 22)) .nil)))))
  (.cons (.ext 1 (.lst (.cons false (.isi (.var 0) (.inl 23)) (.cons false (.isi (.var 0) (.inl 24)) (.cons false (.isi (.var 0) (.inl 25)) .nil)))))
  (.cons (.ret (.bin .Add (.var 1) (.lst (.cons false (.isi (.var 0) (.inl 26)) (.cons false (.isi (.var 0) (.inl 27)) .nil)))))
  .nil)))))))))
/- _law_right: 37: ['_law_pot_here', '_law_value', '_law_made_here', '_law_spot', '_law_error', '_law_base'] + ['_law_at'] -/
def bRight : Sts :=
  (.cons (.asg 1 (.call 2 (.cons false (.var 0) (.cons true (.lst (.cons false (.call 4 (.cons false (.var 0) .nil)) (.cons false (.tup (.cons false (.call 4 (.cons false (.var 0) .nil)) (.cons false (.cst (.int 3)) .nil))) (.cons false (.lst (.cons false (.call 4 (.cons false (.var 0) .nil)) .nil)) (.cons false (.dic [.inr "a"] (.cons false (.call 4 (.cons false (.var 0) .nil)) .nil)) .nil))))) .nil))))
  (.cons (.asg 2 (.call 5 (.cons true (.var 1) .nil)))
  (.cons (.for_ (.tp [(.nm 3), (.nm 4)]) (.enum (.var 2)) (.cons (.ifs (.or (.not (.ex (.isi (.var 4) (.inl 0)))) (.not (.ex (.isi (.var 4) (.inr "ValueError"))))) (.cons (.ret (.cst (.bl false)))
  .nil) .nil)
  (.cons (.ifs (.or (.ex (.cmp .NotEq (.bi .repr (.cons false (.fld (.var 4) 0) .nil)) (.bi .repr (.cons false (.var 1) .nil)))) (.ex (.cmp .NotEq (.call 6 (.cons true (.var 4) .nil)) (.comp (.cmp .Eq (.var 3) (.var 6)) (.nm 6) (.rng1 (.bi .len (.cons false (.var 2) .nil))) .tt [6])))) (.cons (.ret (.cst (.bl false)))
  .nil) .nil)
  .nil)))
  (.cons (.asg 5 (.mkexc 0 (.var 1)))
  (.cons (.ret (.and (.cmp .Eq (.bi .repr (.cons false (.fld (.var 5) 0) .nil)) (.bi .repr (.cons false (.var 1) .nil))) (.and (.isi (.var 5) (.inr "ValueError")) (.and (.cst (.bl true)) (.not (.bi .any (.cons false (.call 6 (.cons true (.var 5) .nil)) .nil)))))))
  .nil)))))
/- law: 38: ['_law_script'] + ['_law_place'] -/
def bLaw : Sts :=
  (.cons (.ret (.bi .all (.cons false (.comp (.call 7 (.cons false (.call 0 (.cons true (.var 0) (.cons true (.var 1) .nil))) .nil)) (.nm 1) (.seq (.call 3 (.cons true (.var 0) (.cons true (.cst (.int 6)) .nil)))) .tt [1]) .nil)))
  .nil)
def fns : List Fn := [⟨2, 5, [], bPot⟩, ⟨2, 5, [], bTake⟩, ⟨2, 2, [], bOf⟩, ⟨2, 2, [], bCells⟩, ⟨1, 3, [], bOdd⟩, ⟨1, 2, [1], bMade⟩, ⟨1, 2, [1], bMarks⟩, ⟨1, 7, [], bRight⟩, ⟨1, 2, [], bLaw⟩]
theorem fns_eq : defs.map (·.fn) = fns := by kernel_rfl
end L78
set_option Elab.async false
set_option linter.all false
set_option maxRecDepth 100000
set_option maxHeartbeats 4000000
/-! evaluating: small laws -/
namespace Eg
open PySem PySem.Spec PyProof.Rows L2
theorem natLog2_lt {n k : Nat} (h : n < 2 ^ k) (hk : 0 < k) : n.log2 < k := by
  by_cases z : n = 0
  · subst z; simpa using hk
  · exact (Nat.log2_lt z).mpr h
theorem mulOk_of {i j : Int} (a b : Nat) (ha : 0 < a) (hb : 0 < b) (hi : i.natAbs < 2 ^ a) (hj : j.natAbs < 2 ^ b) (h : a + b ≤ 1000000) : mulOk i j = true := by
  have h1 := natLog2_lt hi ha
  have h2 := natLog2_lt hj hb
  simp only [mulOk, decide_eq_true_eq]; omega
theorem divOk_of {j : Int} (a : Nat) (ha : 0 < a) (h0 : j ≠ 0) (hj : j.natAbs < 2 ^ a) (h : a ≤ 9000) : divOk j = true := by
  have h2 := natLog2_lt hj ha
  simp only [divOk, Bool.and_eq_true, decide_eq_true_eq]; exact ⟨h0, by omega⟩
theorem natAbs_lt {i : Int} {k : Nat} (h0 : 0 ≤ i) (h : i < 2 ^ k) : i.natAbs < 2 ^ k := by
  have e : ((2 ^ k : Nat) : Int) = 2 ^ k := by simp
  have e2 : ((i.natAbs : Nat) : Int) = i := Int.natAbs_of_nonneg h0
  apply Int.ofNat_lt.mp
  rw [e, e2]; exact h
@[simp] theorem varOf_none : varOf (.none) = none := rfl
@[simp] theorem varOf_cst {d} : varOf (.cst d) = none := rfl
@[simp] theorem varOf_bin {o} {a} {b} : varOf (.bin o a b) = none := rfl
@[simp] theorem varOf_neg {a} : varOf (.neg a) = none := rfl
@[simp] theorem varOf_not {a} : varOf (.not a) = none := rfl
@[simp] theorem varOf_cmp {o} {a} {b} : varOf (.cmp o a b) = none := rfl
@[simp] theorem varOf_chain {o} {p} {a} {b} {c} : varOf (.chain o p a b c) = none := rfl
@[simp] theorem varOf_and {a} {b} : varOf (.and a b) = none := rfl
@[simp] theorem varOf_or {a} {b} : varOf (.or a b) = none := rfl
@[simp] theorem varOf_ite {c} {a} {b} : varOf (.ite c a b) = none := rfl
@[simp] theorem varOf_tup {xs} : varOf (.tup xs) = none := rfl
@[simp] theorem varOf_lst {xs} : varOf (.lst xs) = none := rfl
@[simp] theorem varOf_dic {ks} {vs} : varOf (.dic ks vs) = none := rfl
@[simp] theorem varOf_call {f} {xs} : varOf (.call f xs) = none := rfl
@[simp] theorem varOf_make {f} {xs} : varOf (.make f xs) = none := rfl
@[simp] theorem varOf_mkexc {c} {a} : varOf (.mkexc c a) = none := rfl
@[simp] theorem varOf_bi {b} {xs} : varOf (.bi b xs) = none := rfl
@[simp] theorem varOf_isi {a} {c} : varOf (.isi a c) = none := rfl
@[simp] theorem varOf_fld {a} {n} : varOf (.fld a n) = none := rfl
@[simp] theorem varOf_meth {a} {n} {xs} : varOf (.meth a n xs) = none := rfl
@[simp] theorem varOf_ix {a} {i} : varOf (.ix a i) = none := rfl
@[simp] theorem varOf_sl {a} {l} {h} : varOf (.sl a l h) = none := rfl
@[simp] theorem varOf_rev {a} : varOf (.rev a) = none := rfl
@[simp] theorem varOf_pop {i} {a} : varOf (.pop i a) = none := rfl
@[simp] theorem varOf_lrng {it} : varOf (.lrng it) = none := rfl
@[simp] theorem varOf_comp {e} {tg} {it} {c} {o} : varOf (.comp e tg it c o) = none := rfl
@[simp] theorem varOf_var {i} : varOf (.var i) = some i := rfl
@[simp] theorem freezeO_ok {t : T} {ρ : Env} : freezeO (.ok t ρ) = .ok t.toD ρ := rfl
@[simp] theorem freezeO_exc {d : D} {ρ : Env} : freezeO (.exc d ρ) = .exc d ρ := rfl
@[simp] theorem bind_ok {α β : Type} {a : α} {ρ : Env} {f : α → Env → Out β} : (Out.ok a ρ).bind f = f a ρ := rfl
@[simp] theorem bind_exc {α β : Type} {d : D} {ρ : Env} {f : α → Env → Out β} : (Out.exc (α := α) d ρ).bind f = .exc d ρ := rfl
@[simp] theorem of_some {α : Type} {a : α} {ρ : Env} : Out.of ρ (some a) = .ok a ρ := rfl
@[simp] theorem sof_ok {α : Type} {a : α} {ρ : Env} {f : α → Env → SO} : SO.of (.ok a ρ) f = f a ρ := rfl
@[simp] theorem sof_exc {α : Type} {d : D} {ρ : Env} {f : α → Env → SO} : SO.of (Out.exc (α := α) d ρ) f = .exc d ρ := rfl
@[simp] theorem toD_fr {d : D} : (T.fr d).toD = d := rfl
@[simp] theorem toD_lst {ds : List D} : (T.lst (ds.map .fr)).toD = .lst ds := by rw [T.toD, toDs_fr]
@[simp] theorem toD_dic {ks : List Key} {ds : List D} : (T.dic ks (ds.map .fr)).toD = .dic ks ds := by rw [T.toD, toDs_fr]
@[simp] theorem of'_some {α : Type} {a : α} {ρ : Env} : Out.of' a (some ρ) = .ok a ρ := rfl
theorem evF_at {S : Stat} {R : D → Option Str} {n : Nat} {fns : List Fn} {k f : Nat} {fn : Fn} {args : Env} (h : fns[f]? = some fn) : evF S R n fns (k + 1) f args = evFn S R n (evF S R n fns k) fn args := by
  simp only [evF, h]
end Eg
set_option Elab.async false
set_option linter.all false
set_option maxRecDepth 100000
set_option maxHeartbeats 4000000
/-! the drawing defs that all laws share -/
namespace Eg
open PySem PySem.Spec PyProof.Rows L2
def potT (a b c : Int) : T := .lst [.fr (.int a), .fr (.int b), .fr (.int c)]
structure PotOk (n : Nat) (a b c : Int) : Prop where
  a0 : 0 ≤ a
  a1 : a < 2 ^ 1000
  b0 : 0 ≤ b
  b1 : b < 2 ^ 62
  c0 : 0 ≤ c
  c1 : c ≤ n
theorem PotOk.mono {n m : Nat} {a b c : Int} (h : PotOk n a b c) (k : n ≤ m) : PotOk m a b c := ⟨h.a0, h.a1, h.b0, h.b1, h.c0, by have := h.c1; omega⟩
def bTakeG (k1 k2 k3 k4 : Int) : Sts :=
  (.cons (.ifs (.ex (.cmp .Gt (.ix (.var 0) (.cst (.int 0))) (.cst (.int 0)))) (.cons (.asg 2 (.bin .Mod (.bi .int (.cons false (.ix (.var 0) (.cst (.int 0))) .nil)) (.var 1)))
  (.cons (.asgI 0 (.cst (.int 0)) (.bin .FloorDiv (.ix (.var 0) (.cst (.int 0))) (.var 1)))
  (.cons (.ret (.var 2))
  .nil))) .nil)
  (.cons (.asgI 0 (.cst (.int 2)) (.bin .Add (.ix (.var 0) (.cst (.int 2))) (.cst (.int 1))))
  (.cons (.asg 3 (.ix (.lst (.cons false (.cst (.int 2147483647)) (.cons false (.cst (.int 2147483629)) (.cons false (.cst (.int 2147483587)) (.cons false (.cst (.int 2147483579)) (.cons false (.cst (.int 2147483563)) .nil)))))) (.bin .Mod (.bi .int (.cons false (.ix (.var 0) (.cst (.int 2))) .nil)) (.cst (.int 5)))))
  (.cons (.asg 4 (.bin .Mod (.bi .int (.cons false (.bin .Pow (.bi .int (.cons false (.bin .Add (.bin .Add (.ix (.var 0) (.cst (.int 1))) (.bin .Mult (.bin .Mult (.cst (.int k1)) (.ix (.var 0) (.cst (.int 2)))) (.ix (.var 0) (.cst (.int 2))))) (.cst (.int k2))) .nil)) (.cst (.int 3))) .nil)) (.var 3)))
  (.cons (.asg 4 (.bin .Mod (.bi .int (.cons false (.bin .Mult (.var 4) (.bin .Add (.bin .Mod (.bi .int (.cons false (.var 4) .nil)) (.cst (.int k3))) (.bin .Mult (.cst (.int k4)) (.ix (.var 0) (.cst (.int 2)))))) .nil)) (.cst (.int 2305843009213693907))))
  (.cons (.ret (.bin .Mod (.bi .int (.cons false (.bin .FloorDiv (.var 4) (.cst (.int 137))) .nil)) (.var 1)))
  .nil))))))
section
variable {S : Stat} {R : D → Option Str} {n : Nat} {F : Nat → Env → OutF}
theorem atI_0 {α : Type} (x y z : α) : L2.atI [x, y, z] 0 = some x := rfl
theorem atI_1 {α : Type} (x y z : α) : L2.atI [x, y, z] 1 = some y := rfl
theorem atI_2 {α : Type} (x y z : α) : L2.atI [x, y, z] 2 = some z := rfl
theorem take_own {k1 k2 k3 k4 a b c u : Int} (ha : 0 < a) (hu : 0 < u) (hu2 : u < 2 ^ 1000) :
    evFn S R n F ⟨2, 5, [], bTakeG k1 k2 k3 k4⟩ [.own (potT a b c), .val (.int u)] = .ret (.fr (.int (a.fmod u))) [.own (potT (a.fdiv u) b c), .val (.int u)] := by
  have hu0 : u ≠ 0 := by omega
  have hd : divOk u = true := divOk_of 1000 (by decide) hu0 (natAbs_lt (by omega) hu2) (by decide)
  simp [evFn, evSs, evS, evC, evE, bTakeG, potT, SO.of, freezeO, Out.bind, Out.of, boundS, ixS, T.shal, frs, ixD, atD, atI_0, cmpD, T.toD, D.truth, ha, biD, T.toD, binD, hu0, hd, varOf, lookO, store, slKeep, isLstS, ownsAt, L2.ixN, finOf]
theorem pow_ok3 {i : Int} (h0 : 0 ≤ i) (h : i < 2 ^ 4000) : powOk i 3 = true := by
  have h1 := natAbs_lt h0 h
  have h2 : Builtin.Int.intBits i ≤ 4000 := intBits_le h1
  simp only [powOk, Bool.and_eq_true, decide_eq_true_eq]
  refine ⟨by decide, by omega⟩
theorem fmodB {i j : Int} (h : 0 < j) : 0 ≤ i.fmod j ∧ i.fmod j < j := ⟨Int.fmod_nonneg_of_pos _ h, Int.fmod_lt_of_pos _ h⟩
def primes : List Int := [2147483647, 2147483629, 2147483587, 2147483579, 2147483563]
theorem prime_at {i : Int} (h0 : 0 ≤ i) (h : i < 5) : ∃ p, L2.atI ([2147483647, 2147483629, 2147483587, 2147483579, 2147483563].map D.int) i = some (.int p) ∧ 0 < p ∧ p < 2 ^ 31 := by
  have : i = 0 ∨ i = 1 ∨ i = 2 ∨ i = 3 ∨ i = 4 := by omega
  rcases this with rfl | rfl | rfl | rfl | rfl
  · exact ⟨2147483647, rfl, by decide, by decide⟩
  · exact ⟨2147483629, rfl, by decide, by decide⟩
  · exact ⟨2147483587, rfl, by decide, by decide⟩
  · exact ⟨2147483579, rfl, by decide, by decide⟩
  · exact ⟨2147483563, rfl, by decide, by decide⟩
theorem take_mix {k1 k2 k3 k4 a b c u : Int} (ha : ¬ 0 < a) (hb : 0 ≤ b) (hb1 : b < 2 ^ 62) (hc : 0 ≤ c) (hc1 : c < 2 ^ 100) (hu : 0 < u) (j1 : 0 ≤ k1) (l1 : k1 < 2 ^ 30) (j2 : 0 ≤ k2) (l2 : k2 < 2 ^ 30) (j3 : 0 < k3) (l3 : k3 < 2 ^ 30) (j4 : 0 ≤ k4) (l4 : k4 < 2 ^ 30) :
    ∃ d, evFn S R n F ⟨2, 5, [], bTakeG k1 k2 k3 k4⟩ [.own (potT a b c), .val (.int u)] = .ret (.fr (.int d)) [.own (potT a b (c + 1)), .val (.int u)] ∧ 0 ≤ d ∧ d < u := by
  have hu0 : u ≠ 0 := by omega
  have m1 : mulOk k1 (c + 1) = true := mulOk_of 30 101 (by decide) (by decide) (natAbs_lt j1 l1) (natAbs_lt (by omega) (by omega)) (by decide)
  have b1 : 0 ≤ k1 * (c + 1) := Int.mul_nonneg j1 (by omega)
  have b2 : k1 * (c + 1) < 2 ^ 132 := by
    have := Int.mul_le_mul (a := k1) (b := c + 1) (c := 2 ^ 30) (d := 2 ^ 101) (by omega) (by omega) (by omega) (by decide)
    have e : (2 : Int) ^ 30 * 2 ^ 101 < 2 ^ 132 := by decide
    omega
  have m2 : mulOk (k1 * (c + 1)) (c + 1) = true := mulOk_of 132 101 (by decide) (by decide) (natAbs_lt b1 b2) (natAbs_lt (by omega) (by omega)) (by decide)
  have b3 : 0 ≤ k1 * (c + 1) * (c + 1) := Int.mul_nonneg b1 (by omega)
  have b4 : k1 * (c + 1) * (c + 1) < 2 ^ 234 := by
    have := Int.mul_le_mul (a := k1 * (c + 1)) (b := c + 1) (c := 2 ^ 132) (d := 2 ^ 101) (by omega) (by omega) (by omega) (by decide)
    have e : (2 : Int) ^ 132 * 2 ^ 101 < 2 ^ 234 := by decide
    omega
  have p0 : powOk (b + k1 * (c + 1) * (c + 1) + k2) 3 = true := by
    refine pow_ok3 (by omega) ?_
    have e : (2 : Int) ^ 240 < 2 ^ 4000 := by decide +kernel
    refine Int.lt_trans ?_ e
    omega
  have f5 := fmodB (i := c + 1) (j := 5) (by decide)
  obtain ⟨p, hp, hp0, hp1⟩ := prime_at f5.1 f5.2
  simp only [List.map] at hp
  have fm := fmodB (i := (b + k1 * (c + 1) * (c + 1) + k2) ^ 3) hp0
  generalize hx : ((b + k1 * (c + 1) * (c + 1) + k2) ^ 3).fmod p = x at fm
  have fk := fmodB (i := x) j3
  have m3 : mulOk k4 (c + 1) = true := mulOk_of 30 101 (by decide) (by decide) (natAbs_lt j4 l4) (natAbs_lt (by omega) (by omega)) (by decide)
  have b5 : 0 ≤ k4 * (c + 1) := Int.mul_nonneg j4 (by omega)
  have b6 : k4 * (c + 1) < 2 ^ 132 := by
    have := Int.mul_le_mul (a := k4) (b := c + 1) (c := 2 ^ 30) (d := 2 ^ 101) (by omega) (by omega) (by omega) (by decide)
    have e : (2 : Int) ^ 30 * 2 ^ 101 < 2 ^ 132 := by decide
    omega
  have m4 : mulOk x (x.fmod k3 + k4 * (c + 1)) = true := mulOk_of 31 133 (by decide) (by decide) (natAbs_lt fm.1 (by omega)) (natAbs_lt (by omega) (by omega)) (by decide)
  have hp' : p ≠ 0 := by omega
  have hk3 : k3 ≠ 0 := by omega
  have d137 : divOk 137 = true := by decide
  refine ⟨(((x * (x.fmod k3 + k4 * (c + 1))).fmod 2305843009213693907).fdiv 137).fmod u, ?_, (fmodB hu).1, (fmodB hu).2⟩
  · simp [evFn, evSs, evS, evC, evE, evDs, bTakeG, potT, SO.of, freezeO, Out.bind, Out.of, boundS, ixS, T.shal, frs, ixD, atD, atI_0, atI_1, atI_2, cmpD, T.toD, D.truth, ha, biD, binD, hu0, varOf, lookO, store, slKeep, isLstS, ownsAt, L2.ixN, finOf, m1, m2, p0, hp, hx, hp', hk3, m3, m4, d137, fits, T.toDs, lookV]
end
end Eg
set_option Elab.async false
set_option linter.all false
set_option maxRecDepth 100000
set_option maxHeartbeats 4000000
set_option exponentiation.threshold 5000
/-! the drawing defs that all laws share, by their promises -/
namespace Eg
open PySem PySem.Spec PyProof.Rows L2
/-- the pot's slot -/
abbrev potS (a b c : Int) : Sl := .own (potT a b c)
def TakeF (F : Nat → Env → OutF) (t : Nat) : Prop := ∀ (N : Nat) (a b c u : Int), N < 2 ^ 100 → PotOk N a b c → 0 < u → u < 2 ^ 1000 →
  ∃ d a' b' c', F t [potS a b c, .val (.int u)] = .ret (.fr (.int d)) [potS a' b' c', .val (.int u)] ∧ 0 ≤ d ∧ d < u ∧ PotOk (N + 1) a' b' c'
def OfF (F : Nat → Env → OutF) (t : Nat) : Prop := ∀ (N : Nat) (a b c : Int) (ds : List D), N < 2 ^ 100 → PotOk N a b c → ds ≠ [] → ds.length < 2 ^ 62 →
  ∃ d a' b' c', F t [potS a b c, .val (.lst ds)] = .ret (.fr d) [potS a' b' c', .val (.lst ds)] ∧ d ∈ ds ∧ PotOk (N + 1) a' b' c'
section
variable {S : Stat} {R : D → Option Str} {n : Nat} {F : Nat → Env → OutF}
theorem fdiv_le {a u : Int} (ha : 0 ≤ a) (hu : 0 < u) : 0 ≤ a.fdiv u ∧ a.fdiv u ≤ a := by
  rw [Int.fdiv_eq_ediv_of_nonneg _ (by omega)]
  exact ⟨Int.ediv_nonneg ha (by omega), Int.ediv_le_self _ ha⟩
theorem take_F {k1 k2 k3 k4 : Int} {fns : List Fn} {t k : Nat} (h : fns[t]? = some ⟨2, 5, [], bTakeG k1 k2 k3 k4⟩) (j1 : 0 ≤ k1) (l1 : k1 < 2 ^ 30) (j2 : 0 ≤ k2) (l2 : k2 < 2 ^ 30) (j3 : 0 < k3) (l3 : k3 < 2 ^ 30) (j4 : 0 ≤ k4) (l4 : k4 < 2 ^ 30) :
    TakeF (evF S R n fns (k + 1)) t := fun N a b c u hN p hu hu2 => by
  rw [evF_at h]
  by_cases ha : 0 < a
  · have q := fdiv_le p.a0 hu
    have f := fmodB (i := a) hu
    exact ⟨_, _, _, _, take_own ha hu hu2, f.1, f.2, q.1, Int.lt_of_le_of_lt q.2 p.a1, p.b0, p.b1, p.c0, by have := p.c1; omega⟩
  · obtain ⟨d, e, h1, h2⟩ := take_mix ha p.b0 p.b1 p.c0 (by have := p.c1; omega) hu j1 l1 j2 l2 j3 l3 j4 l4
    exact ⟨d, _, _, _, e, h1, h2, p.a0, p.a1, p.b0, p.b1, by have := p.c0; omega, by have := p.c1; omega⟩
def bOfG (t : Nat) : Sts := (.cons (.ret (.ix (.var 1) (.call t (.cons false (.var 0) (.cons true (.bi .len (.cons false (.var 1) .nil)) .nil))))) .nil)
theorem atI_mem {α : Type} {xs : List α} {i : Int} (h0 : 0 ≤ i) (h : i < xs.length) : ∃ x, L2.atI xs i = some x ∧ x ∈ xs := by
  obtain ⟨m, rfl⟩ := Int.eq_ofNat_of_zero_le h0
  have hm : m < xs.length := by omega
  refine ⟨xs[m], ?_, List.getElem_mem hm⟩
  simp [L2.atI, L2.ixN, hm]
theorem of_F {t o k : Nat} {fns : List Fn} (h : fns[o]? = some ⟨2, 2, [], bOfG t⟩) (ht : TakeF (evF S R n fns k) t) : OfF (evF S R n fns (k + 1)) o := fun N a b c ds hN p hd hl => by
  rw [evF_at h]
  have hl0 : 0 < ds.length := List.length_pos_iff.mpr hd
  obtain ⟨d, a', b', c', e, h1, h2, p'⟩ := ht N a b c ds.length hN p (by omega) (by omega)
  obtain ⟨x, hx, hm⟩ := atI_mem h1 h2
  refine ⟨x, a', b', c', ?_, hm, p'⟩
  have e' : evF S R n fns k t [Sl.own (T.lst [.fr (.int a), .fr (.int b), .fr (.int c)]), .val (.int ds.length)] = .ret (.fr (.int d)) [Sl.own (T.lst [.fr (.int a'), .fr (.int b'), .fr (.int c')]), .val (.int ds.length)] := e
  simp [evFn, evSs, evS, evE, evAs, bOfG, potS, potT, SO.of, freezeO, Out.bind, Out.of, boundS, ixS, ixD, atD, T.shal, T.toD, biD, varOf, lookO, lookV, lenD, callF, arSl, e', Out.of', backAr, hx, ownsAt, finOf]
def bPotG (q1 q2 q3 q4 q5 : Int) : Sts :=
  (.cons (.asg 2 (.ite (.ex (.cmp .Lt (.var 1) (.bi .len (.cons false (.var 0) .nil)))) (.ix (.var 0) (.var 1)) (.bin .Add (.bin .Mult (.cst (.int q1)) (.var 1)) (.cst (.int q2)))))
  (.cons (.asg 3 (.bin .Mult (.bin .Mod (.bi .int (.cons false (.bi .abs (.cons false (.var 2) .nil)) .nil)) (.bin .Pow (.bin .Pow (.cst (.int 10)) (.cst (.int 60))) (.cst (.int 5)))) (.bi .int (.cons false (.cmp .GtE (.bi .abs (.cons false (.var 2) .nil)) (.bin .Pow (.cst (.int 10)) (.cst (.int 18)))) .nil))))
  (.cons (.asg 4 (.bin .Mod (.bi .int (.cons false (.var 2) .nil)) (.cst (.int 2305843009213693951))))
  (.cons (.ret (.lst (.cons false (.var 3) (.cons false (.bin .Mod (.bi .int (.cons false (.bin .Add (.bin .Add (.bin .Mult (.var 4) (.cst (.int q3))) (.bin .Mult (.bin .Mult (.cst (.int q4)) (.var 1)) (.var 1))) (.cst (.int q5))) .nil)) (.cst (.int 2305843009213693921))) (.cons false (.cst (.int 0)) .nil)))))
  .nil))))
theorem pow60 : (10 : Int) ^ 60 = 1000000000000000000000000000000000000000000000000000000000000 := by decide +kernel
/-- what a pot's draws come from: its cell -/
theorem pot_cell {q1 q2 q3 q4 q5 : Int} {ns : List Int} {i : Int} {fns : List Fn} {t k : Nat} (h : fns[t]? = some ⟨2, 5, [], bPotG q1 q2 q3 q4 q5⟩) (hi : 0 ≤ i) (hi2 : i < 2 ^ 20) (hl : ns.length < 2 ^ 20) (j1 : 0 ≤ q1) (l1 : q1 < 2 ^ 30) (j3 : 0 ≤ q3) (l3 : q3 < 2 ^ 30) (j4 : 0 ≤ q4) (l4 : q4 < 2 ^ 30) :
    ∃ a b c, evF S R n fns (k + 1) t [.val (.lst (ns.map .int)), .val (.int i)] = .ret (potT a b c) [.val (.lst (ns.map .int)), .val (.int i)] ∧ PotOk 0 a b c := by
  rw [evF_at h]
  have m1 : mulOk q1 i = true := mulOk_of 30 20 (by decide) (by decide) (natAbs_lt j1 l1) (natAbs_lt hi hi2) (by decide)
  have m4 : mulOk q4 i = true := mulOk_of 30 20 (by decide) (by decide) (natAbs_lt j4 l4) (natAbs_lt hi hi2) (by decide)
  have b1 : 0 ≤ q4 * i := Int.mul_nonneg j4 hi
  have b2 : q4 * i < 2 ^ 60 := by
    have := Int.mul_le_mul (a := q4) (b := i) (c := 2 ^ 30) (d := 2 ^ 20) (by omega) (by omega) (by omega) (by decide)
    have e : (2 : Int) ^ 30 * 2 ^ 20 < 2 ^ 60 := by decide
    omega
  have m5 : mulOk (q4 * i) i = true := mulOk_of 60 20 (by decide) (by decide) (natAbs_lt b1 b2) (natAbs_lt hi hi2) (by decide)
  have cell : ∃ x : Int, (if i < (ns.length : Int) then (atD (ns.map .int) i).map T.fr else some (.fr (.int (q1 * i + q2)))) = some (.fr (.int x)) := by
    by_cases z : i < (ns.length : Int)
    · obtain ⟨x, hx, _⟩ := atI_mem (xs := ns) hi z
      refine ⟨x, ?_⟩
      have : L2.atI (ns.map D.int) i = some (.int x) := by
        simp only [L2.atI, List.length_map] at hx ⊢
        cases e : L2.ixN ns.length i with
        | none => rw [e] at hx; simp at hx
        | some j => rw [e] at hx; simp at hx ⊢; simp [hx]
      simp [z, atD, this]
    · exact ⟨q1 * i + q2, by simp [z]⟩
  obtain ⟨x, hx⟩ := cell
  have hp1 : powOk 10 60 = true := by decide +kernel
  have hp2 : powOk 1000000000000000000000000000000000000000000000000000000000000 5 = true := by decide +kernel
  have hp3 : powOk 10 18 = true := by decide +kernel
  have hM : (0 : Int) < 1000000000000000000000000000000000000000000000000000000000000 ^ 5 := by decide +kernel
  have hM0 : (1000000000000000000000000000000000000000000000000000000000000 : Int) ^ 5 ≠ 0 := by decide +kernel
  have hM1 : (1000000000000000000000000000000000000000000000000000000000000 : Int) ^ 5 < 2 ^ 998 := by decide +kernel
  generalize hMM : (1000000000000000000000000000000000000000000000000000000000000 : Int) ^ 5 = M at hM hM0 hM1
  have fm := fmodB (i := if x < 0 then -x else x) hM
  have fs := fmodB (i := x) (j := 2305843009213693951) (by decide)
  generalize hg : (if x < 0 then -x else x).fmod M = g at fm
  have m6 : ∀ (b : Prop) [Decidable b], mulOk g (if b then 1 else 0) = true := fun b _ => mulOk_of 998 2 (by decide) (by decide) (natAbs_lt fm.1 (by omega)) (by split <;> decide) (by decide)
  have m7 : mulOk (x.fmod 2305843009213693951) q3 = true := mulOk_of 62 30 (by decide) (by decide) (natAbs_lt fs.1 (by omega)) (natAbs_lt j3 l3) (by decide)
  have fb := fmodB (i := x.fmod 2305843009213693951 * q3 + q4 * i * i + q5) (j := 2305843009213693921) (by decide)
  have step : evE S R (evF S R n fns k) (.ite (.ex (.cmp .Lt (.var 1) (.bi .len (.cons false (.var 0) .nil)))) (.ix (.var 0) (.var 1)) (.bin .Add (.bin .Mult (.cst (.int q1)) (.var 1)) (.cst (.int q2)))) [.val (.lst (ns.map .int)), .val (.int i), .unb, .unb, .unb] = .ok (.fr (.int x)) [.val (.lst (ns.map .int)), .val (.int i), .unb, .unb, .unb] := by
    simp only [evE, evC, lookO, varOf, biD, freezeO, Out.bind, Out.of, T.toD, T.shal, Option.bind, lookV, List.getElem?_cons_zero, List.getElem?_cons_succ, lenD, Option.map, List.length_map, cmpD, D.truth]
    by_cases z : i < (ns.length : Int)
    · simp only [z, if_true] at hx
      simp [z, boundS, ixS, ixD, Out.of, hx]
    · simp only [z, if_false] at hx
      simp only [z, decide_false, Bool.false_eq_true, if_false, binD, m1, if_true, freezeO, T.toD, Out.bind, Out.of]
      cases hx; rfl
  refine ⟨g * (if decide (10 ^ 18 ≤ if x < 0 then -x else x) = true then 1 else 0), (x.fmod 2305843009213693951 * q3 + q4 * i * i + q5).fmod 2305843009213693921, 0, ?_, ?_⟩
  · simp only [evFn, bPotG, evSs, evS, List.length_cons, List.length_nil, Nat.reduceAdd, if_true, SO.of, List.replicate, List.cons_append, List.nil_append, ownsAt, Nat.reduceSub]
    rw [step]
    simp [SO.of, store, slKeep, evE, evDs, T.toD, biD, freezeO, Out.bind, Out.of, binD, lookO, varOf, lookV, T.shal, cmpD, pow60, hp1, hp2, hp3, hMM, hM0, hg, m6, m7, m4, m5, fits, finOf, potT]
  · exact ⟨by cases decide (10 ^ 18 ≤ if x < 0 then -x else x) <;> simp <;> omega, by cases decide (10 ^ 18 ≤ if x < 0 then -x else x) <;> simp <;> omega, fb.1, by omega, by decide, by decide⟩
end
end Eg
set_option Elab.async false
set_option linter.all false
set_option maxRecDepth 100000
set_option maxHeartbeats 4000000
set_option exponentiation.threshold 5000
namespace L78
open PySem PySem.Spec PyProof.Rows L2 He Eg
abbrev S0 : Stat := statOf cs nms
abbrev Ff (k : Nat) : Nat → Eg.Env → OutF := evF S0 reprD 0 fns k
theorem take_k (k : Nat) : TakeF (Ff (k + 1)) 1 := take_F (k1 := 104087) (k2 := 145) (k3 := 10259) (k4 := 205) rfl (by decide) (by decide) (by decide) (by decide) (by decide) (by decide) (by decide) (by decide)
theorem of_k (k : Nat) : OfF (Ff (k + 2)) 2 := of_F (t := 1) rfl (take_k k)
def odds : List D := [.non, .bl true, .bl false, .int 0, .int 1, .int (-1), .int 41, .int 100000000, .str "", .str "a", .str "begin", .str "let", .tup [], .lst [], .dic [] [], .tup [.int 0], .tup [.tup []], .lst [.int 0]] ++ [.tup [.tup [.int 0, .int 0]], .tup [.tup [.str "begin", .str "a"]], .tup [.str "let", .tup [.tup [.int 0, .int 0]]], .tup [.int 1, .tup [], .tup []], .tup [.str "never"], .str "always", .tup [.str "a"]] ++ [.dic [.inr "a"] [.int 1]]
theorem odd_k (k : Nat) {N : Nat} {a b c : Int} (hN : N < 2 ^ 100) (p : PotOk N a b c) : ∃ d a' b' c', Ff (k + 3) 4 [potS a b c] = .ret (.fr d) [potS a' b' c'] ∧ d ∈ odds ∧ PotOk (N + 1) a' b' c' := by
  obtain ⟨d, a', b', c', e, h1, p'⟩ := of_k k N a b c odds hN p (by decide) (by decide)
  refine ⟨d, a', b', c', ?_, h1, p'⟩
  have h : Ff (k + 3) 4 [potS a b c] = evFn S0 reprD 0 (Ff (k + 2)) ⟨1, 3, [], bOdd⟩ [potS a b c] := evF_at rfl
  rw [h]
  generalize Ff (k + 2) = F at e
  have e' : F 2 [Sl.own (T.lst [.fr (.int a), .fr (.int b), .fr (.int c)]), .val (.lst odds)] = .ret (.fr d) [Sl.own (T.lst [.fr (.int a'), .fr (.int b'), .fr (.int c')]), .val (.lst odds)] := e
  have hp : powOk 10 8 = true := by decide +kernel
  simp only [odds, List.cons_append, List.nil_append] at e'
  simp [evFn, evSs, evS, evE, evDs, evAs, bOdd, potS, potT, SO.of, freezeO, Out.bind, Out.of, boundS, T.toD, T.toDs, varOf, store, slKeep, fits, bindI, binD, hp, callF, arSl, e', Out.of', backAr, ownsAt, finOf]
def madeD (d : D) : List D := (List.range 27).map fun i => .exc (i + 1) d
theorem made_k (k : Nat) (d : D) : Ff (k + 1) 5 [.val d] = .ret (.lst ((madeD d).map .fr)) [.val d] := by kernel_rfl
def marksD (c : Nat) : List D := (List.range 27).map fun i => .bl (decide (c = i + 1))
theorem marks_k (k : Nat) (c : Nat) (hc : c < 28) (d : D) : Ff (k + 1) 6 [.val (.exc c d)] = .ret (.lst ((marksD c).map .fr)) [.val (.exc c d)] := by
  match c, hc with
  | 0, _ => kernel_rfl
  | 1, _ => kernel_rfl
  | 2, _ => kernel_rfl
  | 3, _ => kernel_rfl
  | 4, _ => kernel_rfl
  | 5, _ => kernel_rfl
  | 6, _ => kernel_rfl
  | 7, _ => kernel_rfl
  | 8, _ => kernel_rfl
  | 9, _ => kernel_rfl
  | 10, _ => kernel_rfl
  | 11, _ => kernel_rfl
  | 12, _ => kernel_rfl
  | 13, _ => kernel_rfl
  | 14, _ => kernel_rfl
  | 15, _ => kernel_rfl
  | 16, _ => kernel_rfl
  | 17, _ => kernel_rfl
  | 18, _ => kernel_rfl
  | 19, _ => kernel_rfl
  | 20, _ => kernel_rfl
  | 21, _ => kernel_rfl
  | 22, _ => kernel_rfl
  | 23, _ => kernel_rfl
  | 24, _ => kernel_rfl
  | 25, _ => kernel_rfl
  | 26, _ => kernel_rfl
  | 27, _ => kernel_rfl
  | n + 28, h => exact absurd h (by omega)
theorem odds_repr : odds.all (fun o => (reprD o).isSome && (reprD (.tup [o, .int 3])).isSome && (reprD (.lst [o])).isSome && (reprD (.dic [.inr "a"] [o])).isSome) = true := by decide +kernel
end L78
set_option Elab.async false
set_option linter.all false
set_option maxRecDepth 100000
set_option maxHeartbeats 4000000
set_option exponentiation.threshold 5000
namespace L78
open PySem PySem.Spec PyProof.Rows L2 He Eg
theorem str_eq (s : Str) : D.eqv (.str s) (.str s) = true := by simp [D.eqv, D.py, PyData.eqv]
theorem forGo_inv {tg : Tg} {body : Eg.Env → SO} (P : List D → Eg.Env → Prop) (st : ∀ x xs ρ, P (x :: xs) ρ → ∃ ρ1 ρ2, asgTg tg x ρ = some ρ1 ∧ body ρ1 = .next ρ2 ∧ P xs ρ2) : ∀ (xs : List D) (ρ : Eg.Env), P xs ρ → ∃ ρ', forGo tg body xs ρ = .next ρ' ∧ P [] ρ'
  | [], ρ, h => ⟨ρ, rfl, h⟩
  | x :: xs, ρ, h => by
    obtain ⟨ρ1, ρ2, e1, e2, h2⟩ := st x xs ρ h
    obtain ⟨ρ', e3, h3⟩ := forGo_inv P st xs ρ2 h2
    refine ⟨ρ', ?_, h3⟩
    simp only [forGo, e1, e2, e3]
def bodyR : Sts := match bRight with
  | .cons _ (.cons _ (.cons (.for_ _ _ b) _)) => b
  | _ => .nil
def cmpX : Ex := .comp (.cmp .Eq (.var 3) (.var 6)) (.nm 6) (.rng1 (.bi .len (.cons false (.var 2) .nil))) .tt [6]
theorem case_k (v : D) (pt sv sb : Sl) (F : Nat → Eg.Env → OutF) (R : D → Option Str) : ∀ (c : Nat), c < 27 → isiD S0 (.exc (c + 1) v) (.inl 0) = some true ∧ isiD S0 (.exc (c + 1) v) (.inr "ValueError") = some true ∧ S0.isX (c + 1) = true ∧ decide (c + 1 < S0.nC) = true ∧
    evE S0 R F cmpX [pt, sv, .val (.lst (madeD v)), .val (.int c), .val (.exc (c + 1) v), sb, .unb] = .ok (.lst ((marksD (c + 1)).map .fr)) [pt, sv, .val (.lst (madeD v)), .val (.int c), .val (.exc (c + 1) v), sb, .unb] ∧ eqD (.lst (marksD (c + 1))) (.lst (marksD (c + 1))) = some true
  | 0, _ => ⟨by kernel_rfl, by kernel_rfl, by kernel_rfl, by kernel_rfl, by kernel_rfl, by kernel_rfl⟩
  | 1, _ => ⟨by kernel_rfl, by kernel_rfl, by kernel_rfl, by kernel_rfl, by kernel_rfl, by kernel_rfl⟩
  | 2, _ => ⟨by kernel_rfl, by kernel_rfl, by kernel_rfl, by kernel_rfl, by kernel_rfl, by kernel_rfl⟩
  | 3, _ => ⟨by kernel_rfl, by kernel_rfl, by kernel_rfl, by kernel_rfl, by kernel_rfl, by kernel_rfl⟩
  | 4, _ => ⟨by kernel_rfl, by kernel_rfl, by kernel_rfl, by kernel_rfl, by kernel_rfl, by kernel_rfl⟩
  | 5, _ => ⟨by kernel_rfl, by kernel_rfl, by kernel_rfl, by kernel_rfl, by kernel_rfl, by kernel_rfl⟩
  | 6, _ => ⟨by kernel_rfl, by kernel_rfl, by kernel_rfl, by kernel_rfl, by kernel_rfl, by kernel_rfl⟩
  | 7, _ => ⟨by kernel_rfl, by kernel_rfl, by kernel_rfl, by kernel_rfl, by kernel_rfl, by kernel_rfl⟩
  | 8, _ => ⟨by kernel_rfl, by kernel_rfl, by kernel_rfl, by kernel_rfl, by kernel_rfl, by kernel_rfl⟩
  | 9, _ => ⟨by kernel_rfl, by kernel_rfl, by kernel_rfl, by kernel_rfl, by kernel_rfl, by kernel_rfl⟩
  | 10, _ => ⟨by kernel_rfl, by kernel_rfl, by kernel_rfl, by kernel_rfl, by kernel_rfl, by kernel_rfl⟩
  | 11, _ => ⟨by kernel_rfl, by kernel_rfl, by kernel_rfl, by kernel_rfl, by kernel_rfl, by kernel_rfl⟩
  | 12, _ => ⟨by kernel_rfl, by kernel_rfl, by kernel_rfl, by kernel_rfl, by kernel_rfl, by kernel_rfl⟩
  | 13, _ => ⟨by kernel_rfl, by kernel_rfl, by kernel_rfl, by kernel_rfl, by kernel_rfl, by kernel_rfl⟩
  | 14, _ => ⟨by kernel_rfl, by kernel_rfl, by kernel_rfl, by kernel_rfl, by kernel_rfl, by kernel_rfl⟩
  | 15, _ => ⟨by kernel_rfl, by kernel_rfl, by kernel_rfl, by kernel_rfl, by kernel_rfl, by kernel_rfl⟩
  | 16, _ => ⟨by kernel_rfl, by kernel_rfl, by kernel_rfl, by kernel_rfl, by kernel_rfl, by kernel_rfl⟩
  | 17, _ => ⟨by kernel_rfl, by kernel_rfl, by kernel_rfl, by kernel_rfl, by kernel_rfl, by kernel_rfl⟩
  | 18, _ => ⟨by kernel_rfl, by kernel_rfl, by kernel_rfl, by kernel_rfl, by kernel_rfl, by kernel_rfl⟩
  | 19, _ => ⟨by kernel_rfl, by kernel_rfl, by kernel_rfl, by kernel_rfl, by kernel_rfl, by kernel_rfl⟩
  | 20, _ => ⟨by kernel_rfl, by kernel_rfl, by kernel_rfl, by kernel_rfl, by kernel_rfl, by kernel_rfl⟩
  | 21, _ => ⟨by kernel_rfl, by kernel_rfl, by kernel_rfl, by kernel_rfl, by kernel_rfl, by kernel_rfl⟩
  | 22, _ => ⟨by kernel_rfl, by kernel_rfl, by kernel_rfl, by kernel_rfl, by kernel_rfl, by kernel_rfl⟩
  | 23, _ => ⟨by kernel_rfl, by kernel_rfl, by kernel_rfl, by kernel_rfl, by kernel_rfl, by kernel_rfl⟩
  | 24, _ => ⟨by kernel_rfl, by kernel_rfl, by kernel_rfl, by kernel_rfl, by kernel_rfl, by kernel_rfl⟩
  | 25, _ => ⟨by kernel_rfl, by kernel_rfl, by kernel_rfl, by kernel_rfl, by kernel_rfl, by kernel_rfl⟩
  | 26, _ => ⟨by kernel_rfl, by kernel_rfl, by kernel_rfl, by kernel_rfl, by kernel_rfl, by kernel_rfl⟩
  | n + 27, h => absurd h (by omega)
theorem str_eqD (s : Str) : eqD (.str s) (.str s) = some true := by simp [eqD, D.scal, D.flat, str_eq]
theorem body_k (k : Nat) (v : D) (s : Str) (hs : reprD v = some s) (c : Nat) (hc : c < 27) (pt sb : Sl) :
    evSs S0 reprD (Ff (k + 1)) 0 [0] [] bodyR [pt, .val v, .val (.lst (madeD v)), .val (.int c), .val (.exc (c + 1) v), sb, .unb] = .next [pt, .val v, .val (.lst (madeD v)), .val (.int c), .val (.exc (c + 1) v), sb, .unb] := by
  have hm := marks_k k (c + 1) (by omega) v
  generalize Ff (k + 1) = F at hm
  obtain ⟨h1, h2, h3, h4, h5, h6⟩ := case_k v pt (.val v) sb F reprD c hc
  have hb : bodyR = (.cons (.ifs (.or (.not (.ex (.isi (.var 4) (.inl 0)))) (.not (.ex (.isi (.var 4) (.inr "ValueError"))))) (.cons (.ret (.cst (.bl false))) .nil) .nil)
    (.cons (.ifs (.or (.ex (.cmp .NotEq (.bi .repr (.cons false (.fld (.var 4) 0) .nil)) (.bi .repr (.cons false (.var 1) .nil)))) (.ex (.cmp .NotEq (.call 6 (.cons true (.var 4) .nil)) cmpX))) (.cons (.ret (.cst (.bl false))) .nil) .nil) .nil)) := rfl
  rw [hb]
  have hX : varOf cmpX = none := rfl
  generalize cmpX = X at *
  have h4' : c + 1 < S0.nC := of_decide_eq_true h4
  simp [evSs, evS, evC, evE, evAs, SO.of, freezeO, Out.bind, Out.of, lookO, lookV, T.shal, h1, h2, D.truth, T.toD, fldT, h3, h4', biD, hs, cmpD, str_eqD, callF, arSl, hm, Out.of', backAr, toDs_fr, h5, hX, h6]
def vals (o1 o2 o3 o4 : D) : List D := [o1, .tup [o2, .int 3], .lst [o3], .dic [.inr "a"] [o4]]
theorem vals_repr {o1 o2 o3 o4 v : D} (h1 : o1 ∈ odds) (h2 : o2 ∈ odds) (h3 : o3 ∈ odds) (h4 : o4 ∈ odds) (h : v ∈ vals o1 o2 o3 o4) : ∃ s, reprD v = some s := by
  have q := odds_repr
  have at_ : ∀ o, o ∈ odds → _ := fun o m => List.all_eq_true.mp q o m
  simp only [vals, List.mem_cons, List.not_mem_nil, or_false] at h
  simp only [Bool.and_eq_true] at at_
  apply Option.isSome_iff_exists.mp
  rcases h with rfl | rfl | rfl | rfl
  · exact (at_ _ h1).1.1.1
  · exact (at_ _ h2).1.1.2
  · exact (at_ _ h3).1.2
  · exact (at_ _ h4).2
theorem right_k (k : Nat) {a b c : Int} (p : PotOk 0 a b c) : ∃ a' b' c', Ff (k + 4) 7 [potS a b c] = .ret (.fr (.bl true)) [potS a' b' c'] := by
  obtain ⟨o1, a1, b1, c1, e1, m1, p1⟩ := odd_k k (by decide) p
  obtain ⟨o2, a2, b2, c2, e2, m2, p2⟩ := odd_k k (by decide) p1
  obtain ⟨o3, a3, b3, c3, e3, m3, p3⟩ := odd_k k (by decide) p2
  obtain ⟨o4, a4, b4, c4, e4, m4, p4⟩ := odd_k k (by decide) p3
  obtain ⟨v, a5, b5, c5, e5, m5, p5⟩ := of_k (k + 1) 4 a4 b4 c4 (vals o1 o2 o3 o4) (by decide) p4 (by simp [vals]) (by simp [vals])
  obtain ⟨s, hs⟩ := vals_repr m1 m2 m3 m4 m5
  refine ⟨a5, b5, c5, ?_⟩
  have h : Ff (k + 4) 7 [potS a b c] = evFn S0 reprD 0 (Ff (k + 3)) ⟨1, 7, [], bRight⟩ [potS a b c] := evF_at rfl
  rw [h]
  have em := made_k (k + 2) v
  have eb := marks_k (k + 2) 0 (by decide) v
  have loop := body_k (k + 2) v s hs
  generalize Ff (k + 3) = F at *
  have hb : bRight = (.cons (.asg 1 (.call 2 (.cons false (.var 0) (.cons true (.lst (.cons false (.call 4 (.cons false (.var 0) .nil)) (.cons false (.tup (.cons false (.call 4 (.cons false (.var 0) .nil)) (.cons false (.cst (.int 3)) .nil))) (.cons false (.lst (.cons false (.call 4 (.cons false (.var 0) .nil)) .nil)) (.cons false (.dic [.inr "a"] (.cons false (.call 4 (.cons false (.var 0) .nil)) .nil)) .nil))))) .nil))))
    (.cons (.asg 2 (.call 5 (.cons true (.var 1) .nil)))
    (.cons (.for_ (.tp [(.nm 3), (.nm 4)]) (.enum (.var 2)) bodyR)
    (.cons (.asg 5 (.mkexc 0 (.var 1)))
    (.cons (.ret (.and (.cmp .Eq (.bi .repr (.cons false (.fld (.var 5) 0) .nil)) (.bi .repr (.cons false (.var 1) .nil))) (.and (.isi (.var 5) (.inr "ValueError")) (.and (.cst (.bl true)) (.not (.bi .any (.cons false (.call 6 (.cons true (.var 5) .nil)) .nil))))))) .nil))))) := rfl
  rw [hb]
  have lp : ∀ pt, ∃ c' e', forGo (.tp [.nm 3, .nm 4]) (fun ρ => evSs S0 reprD F 0 [0] [] bodyR ρ) (enumD (madeD v)) [pt, .val v, .val (.lst (madeD v)), .unb, .unb, .unb, .unb] = .next [pt, .val v, .val (.lst (madeD v)), c', e', .unb, .unb] := by
    intro pt
    obtain ⟨ρ', h1, h2⟩ := forGo_inv (tg := .tp [.nm 3, .nm 4]) (body := fun ρ => evSs S0 reprD F 0 [0] [] bodyR ρ)
      (fun xs ρ => ∃ i x y, ρ = [pt, .val v, .val (.lst (madeD v)), x, y, .unb, .unb] ∧ xs = (enumD (madeD v)).drop i)
      (by
        rintro x xs ρ ⟨i, y, z, rfl, h⟩
        have hl : i < (enumD (madeD v)).length := by
          rcases Nat.lt_or_ge i (enumD (madeD v)).length with q | q
          · exact q
          · rw [List.drop_eq_nil_of_le q] at h; cases h
        have hl' : i < 27 := by simpa [enumD, madeD] using hl
        rw [List.drop_eq_getElem_cons hl] at h
        cases h
        have hx : ∀ h', (enumD (madeD v))[i]'h' = .tup [.int i, .exc (i + 1) v] := fun h' => by simp [enumD, madeD]
        rw [hx]
        exact ⟨[pt, .val v, .val (.lst (madeD v)), .val (.int i), .val (.exc (i + 1) v), .unb, .unb], _, rfl, loop i hl' pt .unb, i + 1, _, _, rfl, rfl⟩)
      (enumD (madeD v)) [pt, .val v, .val (.lst (madeD v)), .unb, .unb, .unb, .unb] ⟨0, _, _, rfl, rfl⟩
    obtain ⟨i, x, y, rfl, _⟩ := h2
    exact ⟨x, y, h1⟩
  obtain ⟨c', e', lp⟩ := lp (potS a5 b5 c5)
  simp only [potS, potT, vals] at e1 e2 e3 e4 e5 lp
  generalize bodyR = B at *
  have ev : isiD S0 (.exc 0 v) (.inr "ValueError") = some true := by kernel_rfl
  have hx0 : S0.isX 0 = true := by kernel_rfl
  have hn0 : 0 < S0.nC := by decide +kernel
  have ha : anyB (marksD 0) = some false := by kernel_rfl
  have hio : Tg.free [0] (.tp [.nm 3, .nm 4]) = true := by kernel_rfl
  simp [evFn, evSs, evS, evC, evE, evAs, evDs, evIt, SO.of, freezeO, Out.bind, Out.of, lookO, lookV, boundS, T.shal, D.truth, T.toD, T.toDs, fldT, biD, hs, cmpD, str_eqD, callF, arSl, e1, e2, e3, e4, e5, em, eb, Out.of', backAr, toDs_fr, ownsAt, fits, store, slKeep, lstD, hio, lp, ev, hx0, hn0, ha, finOf, potS, potT]
end L78
set_option Elab.async false
set_option linter.all false
set_option maxRecDepth 100000
set_option maxHeartbeats 4000000
set_option exponentiation.threshold 5000
namespace L78
open PySem PySem.Spec PyProof.Rows L2 He Eg
theorem pot_k (k : Nat) {ns : List Int} {i : Int} (hi : 0 ≤ i) (hi2 : i < 2 ^ 20) (hl : ns.length < 2 ^ 20) : ∃ a b c, Ff (k + 1) 0 [.val (.lst (ns.map .int)), .val (.int i)] = .ret (potT a b c) [.val (.lst (ns.map .int)), .val (.int i)] ∧ PotOk 0 a b c :=
  pot_cell (q1 := 329) (q2 := 137) (q3 := 76525) (q4 := 8585) (q5 := 305) rfl hi hi2 hl (by decide) (by decide) (by decide) (by decide) (by decide) (by decide)
theorem cells_k (k : Nat) {ns : List Int} (hl : ns.length < 2 ^ 20) (m : Int) (hm : 0 ≤ m) (hm2 : m < 2 ^ 10) : ∃ q : Nat, Ff (k + 1) 3 [.val (.lst (ns.map .int)), .val (.int m)] = .ret (.lst (((List.range q).map fun (j : Nat) => D.int j).map .fr)) [.val (.lst (ns.map .int)), .val (.int m)] ∧ 0 < q ∧ (q : Int) ≤ 1 + m := by
  refine ⟨(if (if (ns.length : Int) < m then (ns.length : Int) else m) > 1 then (if (ns.length : Int) < m then (ns.length : Int) else m) else 1).toNat, ?_, ?_, ?_⟩
  · have h : Ff (k + 1) 3 [.val (.lst (ns.map .int)), .val (.int m)] = evFn S0 reprD 0 (Ff k) ⟨2, 2, [], bCells⟩ [.val (.lst (ns.map .int)), .val (.int m)] := evF_at rfl
    rw [h]
    have hk : okRange (if 1 < (if (ns.length : Int) < m then (ns.length : Int) else m) then (if (ns.length : Int) < m then (ns.length : Int) else m) else 1) = true := by
      simp only [okRange, Bool.and_eq_true, decide_eq_true_eq]
      split <;> split <;> omega
    have hf : (if 1 < (if (ns.length : Int) < m then (ns.length : Int) else m) then (if (ns.length : Int) < m then (ns.length : Int) else m) else 1).toNat ≤ 16777216 := by
      split <;> split <;> omega
    simp [evFn, evSs, evS, evE, evDs, evIt, bCells, SO.of, freezeO, Out.bind, Out.of, lookO, lookV, T.shal, T.toD, biD, lenD, bindI, hk, rangeD, fits, hf, ownsAt, finOf]
  · split <;> split <;> omega
  · split <;> split <;> omega
theorem compGo_inv {own : List Nat} {tg : Tg} {cond : Eg.Env → Out Bool} {elt : Eg.Env → Out D} (P : List D → Eg.Env → Prop) (f : D → D)
    (st : ∀ x xs ρ, P (x :: xs) ρ → ∃ ρ1 ρ2 ρ3, asgTg tg x (wipeE ρ own) = some ρ1 ∧ cond ρ1 = .ok true ρ2 ∧ elt ρ2 = .ok (f x) ρ3 ∧ P xs ρ3) : ∀ (xs : List D) (ρ : Eg.Env) (acc : List D), P xs ρ → ∃ ρ', compGo own tg cond elt xs ρ acc = .ok (acc ++ xs.map f) ρ' ∧ P [] ρ'
  | [], ρ, acc, h => ⟨ρ, by simp [compGo], h⟩
  | x :: xs, ρ, acc, h => by
    obtain ⟨ρ1, ρ2, ρ3, e1, e2, e3, h3⟩ := st x xs ρ h
    obtain ⟨ρ', e4, h4⟩ := compGo_inv P f st xs ρ3 (acc ++ [f x]) h3
    refine ⟨ρ', ?_, h4⟩
    simp only [compGo, e1, e2, e3, e4, List.map_cons, List.append_assoc, List.singleton_append]
theorem plain (ns : List Int) (h : ns.length ≤ 63) : ∃ fin, evF S0 reprD 0 (defs.map (·.fn)) 12 8 [Sl.val (.lst (ns.map .int))] = .ret (.fr (.bl true)) fin := by
  rw [fns_eq]
  have e : evF S0 reprD 0 fns 12 8 [Sl.val (.lst (ns.map .int))] = evFn S0 reprD 0 (Ff 11) ⟨1, 2, [], bLaw⟩ [Sl.val (.lst (ns.map .int))] := evF_at rfl
  rw [e]
  obtain ⟨q, c1, c2, c3⟩ := cells_k 10 (ns := ns) (by omega) 6 (by decide) (by decide)
  have hpot : ∀ i : Int, 0 ≤ i → i < 7 → ∃ a b c, Ff 11 0 [.val (.lst (ns.map .int)), .val (.int i)] = .ret (potT a b c) [.val (.lst (ns.map .int)), .val (.int i)] ∧ PotOk 0 a b c := fun i h0 h1 => pot_k 10 h0 (by omega) (by omega)
  have hright : ∀ a b c, PotOk 0 a b c → ∃ a' b' c', Ff 11 7 [potS a b c] = .ret (.fr (.bl true)) [potS a' b' c'] := fun a b c p => right_k 7 p
  generalize Ff 11 = F at *
  have e1 : ∀ i : Int, 0 ≤ i → i < 7 → freezeO (evE S0 reprD F (.call 7 (.cons false (.call 0 (.cons true (.var 0) (.cons true (.var 1) .nil))) .nil)) [Sl.val (.lst (ns.map .int)), Sl.val (.int i)]) = .ok (.bl true) [Sl.val (.lst (ns.map .int)), Sl.val (.int i)] := by
    intro i h0 h1
    obtain ⟨a, b, c, g1, p⟩ := hpot i h0 h1
    obtain ⟨a', b', c', g2⟩ := hright a b c p
    simp only [potS, potT] at g1 g2
    simp [evE, evAs, freezeO, Out.bind, T.toD, callF, arSl, g1, g2, Out.of', backAr]
  have lp := compGo_inv (own := [1]) (tg := .nm 1) (cond := fun ρ => evC S0 reprD F .tt ρ) (elt := fun ρ => freezeO (evE S0 reprD F (.call 7 (.cons false (.call 0 (.cons true (.var 0) (.cons true (.var 1) .nil))) .nil)) ρ))
    (fun xs ρ => (∃ s, ρ = [Sl.val (.lst (ns.map .int)), s]) ∧ ∀ x ∈ xs, ∃ i : Int, x = .int i ∧ 0 ≤ i ∧ i < 7) (fun _ => .bl true)
    (by
      rintro x xs ρ ⟨⟨s, rfl⟩, hx⟩
      obtain ⟨i, rfl, h0, h1⟩ := hx x (by simp)
      have g := e1 i h0 h1
      exact ⟨_, _, _, rfl, rfl, g, ⟨_, rfl⟩, fun y hy => hx y (by simp [hy])⟩)
    ((List.range q).map fun (j : Nat) => D.int j) [Sl.val (.lst (ns.map .int)), .unb] []
    ⟨⟨_, rfl⟩, fun x hx => by
      obtain ⟨j, hj, rfl⟩ := List.mem_map.mp hx
      have := List.mem_range.mp hj
      exact ⟨j, rfl, by omega, by omega⟩⟩
  obtain ⟨ρ', lp, ⟨s, rfl⟩, _⟩ := lp
  have ha : ∀ xs : List D, Eg.allB (xs.map fun _ => D.bl true) = some true := by
    intro xs
    induction xs with
    | nil => rfl
    | cons x xs ih => simp [Eg.allB, ih]
  have hq : q ≤ 16777216 := by omega
  refine ⟨[Sl.val (.lst (ns.map .int))], ?_⟩
  generalize hX : (Ex.call 7 (.cons false (.call 0 (.cons true (.var 0) (.cons true (.var 1) .nil))) .nil)) = X at *
  have hb : bLaw = (.cons (.ret (.bi .all (.cons false (.comp X (.nm 1) (.seq (.call 3 (.cons true (.var 0) (.cons true (.cst (.int 6)) .nil)))) .tt [1]) .nil))) .nil) := by rw [← hX]; rfl
  rw [hb]
  have hl : ((List.range q).map fun (j : Nat) => D.int j).length ≤ 16777216 := by simpa using hq
  generalize ((List.range q).map fun (j : Nat) => D.int j) = ds at *
  have hn : noOwn [Sl.val (.lst (ns.map .int)), .unb] [1] = true := rfl
  have hw : Tg.within [1] (.nm 1) = true := rfl
  have e3 : evE S0 reprD F (.comp X (.nm 1) (.seq (.call 3 (.cons true (.var 0) (.cons true (.cst (.int 6)) .nil)))) .tt [1]) [Sl.val (.lst (ns.map .int)), .unb] = .ok (.lst ((ds.map fun _ => D.bl true).map .fr)) [Sl.val (.lst (ns.map .int)), .unb] := by
    have e2 : evIt S0 reprD F (.seq (.call 3 (.cons true (.var 0) (.cons true (.cst (.int 6)) .nil)))) [Sl.val (.lst (ns.map .int)), .unb] = .ok ds [Sl.val (.lst (ns.map .int)), .unb] := by
      simp [evIt, evE, evAs, callF, arSl, c1, backAr, seqD]
    rw [evE, e2, bind_ok]
    simp only [hn, hw, fits, hl, decide_true, Bool.and_self, if_true, lp, bind_ok, List.nil_append]
    rfl
  have hY : varOf (.comp X (.nm 1) (.seq (.call 3 (.cons true (.var 0) (.cons true (.cst (.int 6)) .nil)))) .tt [1]) = none := rfl
  generalize (Ex.comp X (.nm 1) (.seq (.call 3 (.cons true (.var 0) (.cons true (.cst (.int 6)) .nil)))) .tt [1]) = Y at *
  have ha := ha ds
  generalize (ds.map fun _ => D.bl true) = bs at *
  simp [evFn, evSs, evS, evE, lookO, hY, e3, biD, T.shal, ha, ownsAt, finOf]
end L78
set_option Elab.async false
set_option linter.all false
set_option maxRecDepth 100000
set_option maxHeartbeats 0
namespace L78
open PySem PySem.Spec PyProof.Rows L2 He Eg
end L78
open PySem PySem.W PySem.Calls PyProof.Rows
theorem PySem.Challenge.cw_unseenstocks_k78_errors_keep_their_value_holds : PySem.Challenge.rw_unseenstocks_k78_errors_keep_their_value.Holds := by
  w_on; o_law
  refine HandSHeadRun.head_any (r := L78.R) (q := view L78.R.prog [38]) (H := L78.hk) (ob := L78.ob) (M := 20000) (loose := L78.names) (d := HandSHeadRun.topDef L78.R.prog 38) (kwd := []) L78.ob_eq
    (by kernel_rfl) (fun s => by kernel_rfl) L78.run (by kernel_rfl) (by kernel_rfl) (by kernel_rfl) (by rfl) (by first | assumption | decide +kernel) (by decide +kernel) ⟨rfl, rfl, rfl, rfl, rfl, by decide +kernel⟩ ?hw ?hc
  case hw => w_witness2
  case hc =>
    refine Eg.walk_ofEg (l := PySem.Challenge.rw_unseenstocks_k78_errors_keep_their_value) (n := 63) (k := 43) (x := "_law_script") rfl (by decide) (by kernel_rfl) ⟨rfl, by decide, by decide⟩ ?F
    intro w mg fa h Y G hmg0
    obtain ⟨K, KX, c⟩ := Y
    have hmg : mg ("law" : PySem.Str) = some (.ref fa) := by
      have e : (HandSHeadRun.topDef L78.R.prog 38).name = ("law" : PySem.Str) := by kernel_rfl
      rw [← e]
      exact hmg0
    have e := hmg.symm.trans (He.glo_ok KX G (He.ba c.all).2)
    cases e
    have B := L78.lawB c
    obtain ⟨oc, od, osl, kV, doc, pm, an, cdv, ct, lk, hcd, _⟩ := B.def_ 8 L78.dLaw rfl
    exact ⟨Eg.wdOf K L78.cs, _, Eg.evF L78.S0 Eg.reprD 0 (L78.defs.map fun l : Eg.LDef => l.fn) 12 8, KX, rfl, fun s u => .of_eq (L78.g8.bnd kV doc pm an cdv ct [u] rfl), fun ns hl => L78.plain ns hl, fun base X G => B.fnE X G 0 12 8 L78.dLaw rfl lk hcd⟩
