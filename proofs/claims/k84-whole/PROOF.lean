import PyProof.Rows.All
import Wide.All
import OpenK.AllK
import Wide.FinOn
import HandS.ForMost
import HandS.ForExc
import HandS.Deep
import HandS.Zip
import HandS.IsInst
import HandS.CallLocal
import HandS.ExcInit
import HandS.Wide
import HandS.StrMore
import KE.LtData
import PyProof.StrBlock2
import HandS.RaiseMore
import HandS.Comp
import HandS.Exc
import KE.GoesComp
import KE.KAsSuite
import KE.KExcIs
import HandS.Defaults
import HandS.Words
import HandS.WordsExc
import HandS.More
import HandS.Head0
import HandS.Head1
import HandS.Head2
import HandS.HeadEnd
import HandS.HeadHook1
import HandS.HeadHook2
import HandS.HeadHook3
import HandS.HeadHook4
import HandS.HeadWalk
import HandS.Text
import KE.IntTextLaws
import HandS.WrittenGet
import KE.GoesZip
import HandS.Style
import HandS.Sort
import HandS.Conv
import KE.KSortTupAny
import KE.IntTextText
import KE.KxAffix
import PySem.Challenge.RW_holdword_k84_whole_any_words
set_option Elab.async false
set_option linter.all false
set_option maxRecDepth 100000
/-! part K84L -/
set_option maxHeartbeats 2000000
/-! K84L: data layer over HandS: what a reading evaluates to, told at data level. -/
namespace K84
open PySem PySem.Spec PyProof.Rows L2

/-! ### data -/
mutual
/-- data in the heap: lists are tracked, tuples may be read -/
inductive Dq (K : PySem.W.Frag) (H : Hp) : V → PyData → Prop
  | non : Dq K H .non .none
  | bl (b : Bool) : Dq K H (.bl b) (.bool b)
  | int (i : Int) : Dq K H (.int i) (.int i)
  | str (x : Str) : Dq K H (.str x) (.str x)
  | lst {a : Addr} {xs : List V} {ds : List PyData} : H a = some (.lst xs) → DqAll K H xs ds → Dq K H (.ref a) (.list ds)
  | tup {a : Addr} {xs : List V} {ds : List PyData} : SqT K H a xs → DqAll K H xs ds → Dq K H (.ref a) (.tuple ds)
inductive DqAll (K : PySem.W.Frag) (H : Hp) : List V → List PyData → Prop
  | nil : DqAll K H [] []
  | cons {v : V} {vs : List V} {d : PyData} {ds : List PyData} : Dq K H v d → DqAll K H vs ds → DqAll K H (v :: vs) (d :: ds)
end
mutual
theorem Dq.dp {K : PySem.W.Frag} {H : Hp} : ∀ {v : V} {x : PyData}, Dq K H v x → Dp K H v x
  | _, _, .non => .non
  | _, _, .bl b => .bl b
  | _, _, .int i => .int i
  | _, _, .str z => .str z
  | _, _, .lst h a => .lst (SqL.of h) (DqAll.dp a)
  | _, _, .tup h a => .tup h (DqAll.dp a)
theorem DqAll.dp {K : PySem.W.Frag} {H : Hp} : ∀ {vs : List V} {xs : List PyData}, DqAll K H vs xs → DpAll K H vs xs
  | _, _, .nil => .nil
  | _, _, .cons h a => .cons (Dq.dp h) (DqAll.dp a)
end
/-- a caught error, kept: its class C, its dict at dd -/
def exk (a C dd : Addr) : HO := .ext fun h => ∃ oe : Obj, h.get? a = some oe ∧ oe.cls = .ref C ∧ oe.dict = some dd ∧ ∃ vs, oe.data = .fields vs
/-- what a slot holds: data, an object by its address, or an error of the class C -/
inductive Dv where
  | d (x : PyData) | r (a : Addr) | e (C : Addr)
def DvR (K : PySem.W.Frag) (G : Hp) (v : V) : Dv → Prop
  | .d x => Dq K G v x
  | .r a => v = .ref a
  | .e C => ∃ a dd fs, v = .ref a ∧ G a = some (exk a C dd) ∧ G dd = some (.xd fs)

section
variable {K : PySem.W.Frag} {G G' H H' : Hp}
theorem rd_mono {a : Addr} {u : HO} (e : Same H H') (h : Rd H a u) : Rd H' a u := by
  rcases h with h | ⟨o, h⟩
  · exact .inl (e _ _ h)
  · exact .inr ⟨o, e _ _ h⟩
theorem sqt_mono {a : Addr} {xs : List V} (e : Same H H') (h : SqT K H a xs) : SqT K H' a xs := by
  rcases h with h | h
  · exact .inl (rd_mono e h)
  · exact .inr h
mutual
theorem dq_mono (e : Same H H') : ∀ {v : V} {x : PyData}, Dq K H v x → Dq K H' v x
  | _, _, .non => .non
  | _, _, .bl b => .bl b
  | _, _, .int i => .int i
  | _, _, .str z => .str z
  | _, _, .lst h a => .lst (e _ _ h) (dqAll_mono e a)
  | _, _, .tup h a => .tup (sqt_mono e h) (dqAll_mono e a)
theorem dqAll_mono (e : Same H H') : ∀ {vs : List V} {xs : List PyData}, DqAll K H vs xs → DqAll K H' vs xs
  | _, _, .nil => .nil
  | _, _, .cons h a => .cons (dq_mono e h) (dqAll_mono e a)
end
theorem DvR.mono (e : Same H H') {v : V} {d : Dv} (h : DvR K H v d) : DvR K H' v d := by
  cases d with
  | d x => exact dq_mono e h
  | r a => exact h
  | e C =>
    obtain ⟨a, dd, fs, h1, h2, h3⟩ := h
    exact ⟨a, dd, fs, h1, e _ _ h2, e _ _ h3⟩
theorem dqAll_length : ∀ {vs : List V} {xs : List PyData}, DqAll K H vs xs → vs.length = xs.length
  | _, _, .nil => rfl
  | _, _, .cons _ a => congrArg (· + 1) (dqAll_length a)
theorem dqAll_get : ∀ {vs : List V} {xs : List PyData} {i : Nat} {x : PyData}, DqAll K H vs xs → xs[i]? = some x → ∃ v, vs[i]? = some v ∧ Dq K H v x
  | _, _, _, _, .nil, h => by simp at h
  | _, _, 0, _, .cons h _, e => by
    have e' := Option.some.inj e
    subst e'
    exact ⟨_, rfl, h⟩
  | _, _, i + 1, _, .cons _ a, e => dqAll_get (i := i) a e
theorem dqAll_get' : ∀ {vs : List V} {xs : List PyData} {i : Nat} {v : V}, DqAll K H vs xs → vs[i]? = some v → ∃ x, xs[i]? = some x ∧ Dq K H v x
  | _, _, _, _, .nil, h => by simp at h
  | _, _, 0, _, .cons h _, e => by
    have e' := Option.some.inj e
    subst e'
    exact ⟨_, rfl, h⟩
  | _, _, i + 1, _, .cons _ a, e => dqAll_get' (i := i) a e
theorem dqAll_app : ∀ {vs ws : List V} {xs ys : List PyData}, DqAll K H vs xs → DqAll K H ws ys → DqAll K H (vs ++ ws) (xs ++ ys)
  | _, _, _, _, .nil, b => b
  | _, _, _, _, .cons h a, b => .cons h (dqAll_app a b)
theorem dqAll_take : ∀ {vs : List V} {xs : List PyData} (n : Nat), DqAll K H vs xs → DqAll K H (vs.take n) (xs.take n)
  | _, _, 0, _ => .nil
  | _, _, _ + 1, .nil => .nil
  | _, _, n + 1, .cons h a => .cons h (dqAll_take n a)
theorem dqAll_drop : ∀ {vs : List V} {xs : List PyData} (n : Nat), DqAll K H vs xs → DqAll K H (vs.drop n) (xs.drop n)
  | _, _, 0, a => a
  | _, _, _ + 1, .nil => .nil
  | _, _, n + 1, .cons _ a => dqAll_drop n a
theorem dqAll_set : ∀ {vs : List V} {xs : List PyData} {v : V} {x : PyData} (n : Nat), DqAll K H vs xs → Dq K H v x → DqAll K H (vs.set n v) (xs.set n x)
  | _, _, _, _, _, .nil, _ => .nil
  | _, _, _, _, 0, .cons _ a, h => .cons h a
  | _, _, _, _, n + 1, .cons g a, h => .cons g (dqAll_set n a h)
theorem dqAll_erase : ∀ {vs : List V} {xs : List PyData} (n : Nat), DqAll K H vs xs → DqAll K H (vs.eraseIdx n) (xs.eraseIdx n)
  | _, _, _, .nil => .nil
  | _, _, 0, .cons _ a => a
  | _, _, n + 1, .cons g a => .cons g (dqAll_erase n a)
/-- texts -/
theorem dqAll_strs : ∀ {zs : List Str} {vs : List V}, DqAll K H vs (zs.map PyData.str) → vs = zs.map V.str
  | [], _, .nil => rfl
  | z :: zs, _, .cons h a => by
    cases h
    rw [dqAll_strs a]
    all_goals rfl
theorem dqAll_of_strs : ∀ {zs : List Str}, DqAll K H (zs.map V.str) (zs.map PyData.str)
  | [] => .nil
  | z :: zs => .cons (.str z) dqAll_of_strs
theorem dqAll_bools : ∀ {bs : List Bool} {vs : List V}, DqAll K H vs (bs.map PyData.bool) → vs = bs.map V.bl
  | [], _, .nil => rfl
  | b :: bs, _, .cons h a => by
    cases h
    rw [dqAll_bools a]
    all_goals rfl
end

/-! ### slots -/
abbrev Sd := List (Option Dv)
def SlR (K : PySem.W.Frag) (G : Hp) : Option V → Option Dv → Prop
  | _, none => True
  | s, some d => ∃ v, s = some v ∧ DvR K G v d
abbrev Sl (K : PySem.W.Frag) (G : Hp) : L2.St → Sd → Prop := Paired (SlR K G)
section
variable {K : PySem.W.Frag} {G G' : Hp}
theorem SlR.mono (e : Same G G') {s : Option V} {d : Option Dv} (h : SlR K G s d) : SlR K G' s d := by
  cases d with
  | none => trivial
  | some d => exact h.elim fun v h => ⟨v, h.1, h.2.mono e⟩
theorem Sl.mono (e : Same G G') : ∀ {σ : L2.St} {ss : Sd}, Sl K G σ ss → Sl K G' σ ss
  | _, _, .nil => .nil
  | _, _, .cons h t => .cons (h.mono e) (Sl.mono e t)
theorem Sl.get : ∀ {σ : L2.St} {ss : Sd} {i : Nat} {d : Dv}, Sl K G σ ss → ss[i]? = some (some d) → ∃ v, σ[i]? = some (some v) ∧ DvR K G v d
  | _, _, _, _, .nil, e => by simp at e
  | _, _, 0, _, .cons h _, e => by
    have e' := Option.some.inj e
    subst e'
    obtain ⟨v, ev, hv⟩ := h
    subst ev
    exact ⟨v, rfl, hv⟩
  | _, _, i + 1, _, .cons _ t, e => Sl.get (i := i) t e
theorem Sl.set {v : V} {d : Dv} (h : DvR K G v d) : ∀ {σ : L2.St} {ss : Sd} (i : Nat), Sl K G σ ss → Sl K G (σ.set i (some v)) (ss.set i (some d))
  | _, _, _, .nil => .nil
  | _, _, 0, .cons _ t => .cons ⟨v, rfl, h⟩ t
  | _, _, i + 1, .cons q t => .cons q (Sl.set h i t)
theorem Sl.set0 {o : Option V} : ∀ {σ : L2.St} {ss : Sd} (i : Nat), Sl K G σ ss → Sl K G (σ.set i o) (ss.set i none)
  | _, _, _, .nil => .nil
  | _, _, 0, .cons _ t => .cons trivial t
  | _, _, i + 1, .cons q t => .cons q (Sl.set0 i t)
/-- a comprehension's own slots forgotten -/
def wipeD (ss : Sd) : List Nat → Sd
  | [] => ss
  | v :: vs => (wipeD ss vs).set v none
theorem Sl.wipe {σ : L2.St} {ss : Sd} (h : Sl K G σ ss) : ∀ vs : List Nat, Sl K G (wipe σ vs) (wipeD ss vs)
  | [] => h
  | v :: vs => Sl.set0 v (Sl.wipe h vs)
end

/-! ### the state: what is known for good (G), what stands (H); what may not be known (Pr); the cells that may change (a mode) -/
/-- an object that is no exception's dict -/
def Solid (x : Option HO) : Prop := ∃ o, x = some o ∧ ∀ fs, o ≠ .xd fs
theorem Solid.ne {x : Option HO} (h : Solid x) : x ≠ none := by
  obtain ⟨o, e, _⟩ := h
  rw [e]
  exact fun z => nomatch z
/-- the cells that may change, and what holds of them -/
structure Mode where
  own : Addr → Prop
  J : Hp → Hp → Prop
  st : ∀ {G G' H H' : Hp}, J G H → Same G G' → (∀ b o, own b → H b = some o → H' b = some o) → J G' H'
def Mode.no : Mode := ⟨fun _ => False, fun _ _ => True, fun _ _ _ => trivial⟩
/-- the list of draws -/
def Left (l : Addr) (H : Hp) : Prop := ∃ a b : Int, 0 ≤ a ∧ a < 10 ^ 40 ∧ 0 ≤ b ∧ b < 2147483647 ∧ H l = some (.lst [.int a, .int b])
def Mode.draws (l : Addr) : Mode := ⟨fun b => b = l, fun _ H => Left l H, fun ⟨a, b, h1, h2, h3, h4, h5⟩ _ k => ⟨a, b, h1, h2, h3, h4, k _ _ rfl h5⟩⟩
/-- a list of our own at p, beside -/
def Mode.list (M : Mode) (K : PySem.W.Frag) (p : Addr) (xs : List PyData) : Mode := ⟨fun b => M.own b ∨ b = p, fun G H => M.J G H ∧ ∃ vs, H p = some (.lst vs) ∧ DqAll K G vs xs,
  fun ⟨h, vs, e, a⟩ s k => ⟨M.st h s fun b o hb q => k b o (.inl hb) q, vs, k _ _ (.inr rfl) e, dqAll_mono s a⟩⟩
structure Vw (M : Mode) (Pr : Addr → Prop) (G H : Hp) : Prop where
  sm : Same G H
  pr : ∀ b, Pr b → G b = none ∧ Solid (H b)
  ow : ∀ b, M.own b → Pr b
  lf : M.J G H
/-- all but the mode's cells is kept -/
def Kp (M : Mode) (H H' : Hp) : Prop := ∀ b o, ¬ M.own b → H b = some o → H' b = some o
structure Go (M : Mode) (Pr : Addr → Prop) (G H G' H' : Hp) : Prop where
  vw : Vw M Pr G' H'
  g : Same G G'
  h : Kp M H H'
section
variable {M M' : Mode} {Pr : Addr → Prop} {G H G' H' G2 H2 : Hp}
theorem Kp.refl : Kp M H H := fun _ _ _ h => h
theorem Kp.trans (a : Kp M H H') (b : Kp M H' H2) : Kp M H H2 := fun c o m h => b c o m (a c o m h)
theorem Kp.same (s : Same H H') : Kp M H H' := fun b o _ h => s b o h
theorem Kp.to_same (k : Kp Mode.no H H') : Same H H' := fun b o h => k b o (fun z => z) h
theorem Kp.own (e : ∀ b, M'.own b → M.own b) (k : Kp M' H H') : Kp M H H' := fun b o n h => k b o (fun z => n (e b z)) h
theorem Go.refl (v : Vw M Pr G H) : Go M Pr G H G H := ⟨v, Same.refl _, Kp.refl⟩
theorem Go.trans (a : Go M Pr G H G' H') (b : Go M Pr G' H' G2 H2) : Go M Pr G H G2 H2 := ⟨b.vw, a.g.trans b.g, a.h.trans b.h⟩
/-- a new object, known -/
theorem Vw.new {p : Addr} {o : HO} (v : Vw M Pr G H) (hp : H p = none) : Go M Pr G H (upd G p o) (upd H p o) := by
  have gp : G p = none := v.sm.free hp
  have sg : Same G (upd G p o) := fun b u e => by
    rw [upd_ne (ne_of_none e gp)]
    exact e
  refine ⟨⟨fun b u e => ?_, fun b hb => ?_, v.ow, M.st v.lf sg fun b u _ e => by rw [upd_ne (ne_of_none e hp)]; exact e⟩, sg, fun b u _ e => ?_⟩
  · by_cases z : b = p
    · subst z
      rw [upd_same] at e ⊢
      exact e
    · rw [upd_ne z] at e ⊢
      exact v.sm b u e
  · obtain ⟨h1, h2⟩ := v.pr b hb
    have z : b ≠ p := fun z => h2.ne (z ▸ hp)
    rw [upd_ne z, upd_ne z]
    exact ⟨h1, h2⟩
  · rw [upd_ne (ne_of_none e hp)]
    exact e
/-- a new object, not known -/
theorem Vw.own {p : Addr} {o : HO} (v : Vw M Pr G H) (hp : H p = none) : Go M Pr G H G (upd H p o) := by
  refine ⟨⟨fun b u e => ?_, fun b hb => ?_, v.ow, M.st v.lf (Same.refl _) fun b u _ e => by rw [upd_ne (ne_of_none e hp)]; exact e⟩, Same.refl _, fun b u _ e => ?_⟩
  · rw [upd_ne (ne_of_none (v.sm b u e) hp)]
    exact v.sm b u e
  · obtain ⟨h1, h2⟩ := v.pr b hb
    have z : b ≠ p := fun z => h2.ne (z ▸ hp)
    rw [upd_ne z]
    exact ⟨h1, h2⟩
  · rw [upd_ne (ne_of_none e hp)]
    exact e
/-- something more is protected -/
theorem Vw.more {p : Addr} (v : Vw M Pr G H) (gp : G p = none) (hp : Solid (H p)) : Vw M (fun b => Pr b ∨ b = p) G H :=
  ⟨v.sm, fun b hb => hb.elim (v.pr b) fun z => by rw [z]; exact ⟨gp, hp⟩, fun b hb => .inl (v.ow b hb), v.lf⟩
/-- another mode of the same state -/
theorem Vw.as (v : Vw M Pr G H) (how : ∀ b, M'.own b → Pr b) (h : M'.J G H) : Vw M' Pr G H := ⟨v.sm, v.pr, how, h⟩
theorem Vw.mode0 (v : Vw M Pr G H) : Vw Mode.no Pr G H := v.as (fun _ z => z.elim) trivial
/-- behind a step without the cells: they stand as they stood -/
theorem Go.mode (v : Vw M Pr G H) (g : Go Mode.no Pr G H G' H') : Go M Pr G H G' H' :=
  ⟨⟨g.vw.sm, g.vw.pr, v.ow, M.st v.lf g.g fun b o _ e => g.h.to_same b o e⟩, g.g, Kp.same g.h.to_same⟩
/-- an object not known, protected, becomes known -/
theorem Vw.know {p : Addr} {o : HO} (v : Vw M (fun b => Pr b ∨ b = p) G H) (hn : ¬ Pr p) (ho : H p = some o) (hP : ∀ b, M.own b → Pr b) : Vw M Pr (upd G p o) H := by
  have gp : G p = none := (v.pr p (.inr rfl)).1
  refine ⟨fun b u e => ?_, fun b hb => ?_, hP, M.st v.lf (fun b u e => by rw [upd_ne (ne_of_none e gp)]; exact e) fun _ _ _ e => e⟩
  · by_cases z : b = p
    · subst z
      rw [upd_same] at e
      rw [ho]
      exact e
    · rw [upd_ne z] at e
      exact v.sm b u e
  · have z : b ≠ p := fun z => hn (z ▸ hb)
    rw [upd_ne z]
    exact v.pr b (.inl hb)
theorem Same.know {p : Addr} {o : HO} (gp : G p = none) : Same G (upd G p o) := fun b u e => by
  rw [upd_ne (ne_of_none e gp)]
  exact e
/-- a mode of fewer cells -/
structure Mode.Sub (M' M : Mode) : Prop where
  own : ∀ b, M'.own b → M.own b
  to : ∀ {G H : Hp}, M.J G H → M'.J G H
  back : ∀ {G H G' H' : Hp}, M.J G H → Same G G' → Kp M' H H' → M'.J G' H' → M.J G' H'
theorem Mode.Sub.refl : Mode.Sub M M := ⟨fun _ h => h, fun h => h, fun _ _ _ h => h⟩
theorem Mode.Sub.no : Mode.Sub Mode.no M := ⟨fun _ z => z.elim, fun _ => trivial, fun h s k _ => M.st h s fun b o _ e => k.to_same b o e⟩
theorem Mode.Sub.list {K : PySem.W.Frag} {p : Addr} {xs : List PyData} (hp : ¬ M.own p) : Mode.Sub M (M.list K p xs) :=
  ⟨fun _ h => .inl h, fun h => h.1, fun ⟨_, vs, e, a⟩ s k h2 => ⟨h2, vs, k _ _ hp e, dqAll_mono s a⟩⟩
theorem Vw.sub (u : Mode.Sub M' M) (v : Vw M Pr G H) : Vw M' Pr G H := v.as (fun b hb => v.ow b (u.own b hb)) (u.to v.lf)
theorem Go.sub (u : Mode.Sub M' M) (v : Vw M Pr G H) (g : Go M' Pr G H G' H') : Go M Pr G H G' H' :=
  ⟨g.vw.as v.ow (u.back v.lf g.g g.h g.vw.lf), g.g, g.h.own u.own⟩
end
end K84

/-! part K84W -/
set_option maxHeartbeats 2000000
/-! K84W: the judgements at data level, and their rules. -/
namespace K84
open PySem PySem.Spec PyProof.Rows L2

structure Ctx where
  K : PySem.W.Frag
  M : Mode
  E : XK
  C : Addr
/-- a raise is wished for -/
def Wants (Γ : Ctx) (x : Prop) (H : Hp) : Prop := x → ∀ (dd : Addr) (fs : List (Str × V)) (H' : Hp), Kp Γ.M H H' → H' dd = some (.xd fs) → Γ.E (.ref Γ.C) (some dd) H'
theorem Wants.on {Γ : Ctx} {x : Prop} {H H' : Hp} (w : Wants Γ x H) (k : Kp Γ.M H H') : Wants Γ x H' := fun hx dd fs H2 k2 => w hx dd fs H2 (k.trans k2)
def Wp (Γ : Ctx) (te : TE) (ss : Sd) (k : Dv → Prop) (x : Prop) : Prop := ∀ Pr G H σ, Vw Γ.M Pr G H → Sl Γ.K G σ ss → ∀ Q : VK,
  (∀ d v G' H', k d → Go Γ.M Pr G H G' H' → DvR Γ.K G' v d → Q v H') → Wants Γ x H → te σ H Q
def WpT (Γ : Ctx) (tt : TT) (ss : Sd) (k : Bool → Prop) (x : Prop) : Prop := ∀ Pr G H σ, Vw Γ.M Pr G H → Sl Γ.K G σ ss → ∀ Q : Bool → Hp → Prop,
  (∀ b G' H', k b → Go Γ.M Pr G H G' H' → Q b H') → Wants Γ x H → tt σ H Q
abbrev DvAll (K : PySem.W.Frag) (G : Hp) : List V → List Dv → Prop := Paired (DvR K G)
theorem DvAll.mono {K : PySem.W.Frag} {G G' : Hp} (e : Same G G') : ∀ {vs : List V} {ds : List Dv}, DvAll K G vs ds → DvAll K G' vs ds
  | _, _, .nil => .nil
  | _, _, .cons h t => .cons (h.mono e) (DvAll.mono e t)
def WpA (Γ : Ctx) (ta : TA) (ss : Sd) (k : List Dv → Prop) (x : Prop) : Prop := ∀ Pr G H σ, Vw Γ.M Pr G H → Sl Γ.K G σ ss → ∀ Q : List V → Hp → Prop,
  (∀ ds vs G' H', k ds → Go Γ.M Pr G H G' H' → DvAll Γ.K G' vs ds → Q vs H') → Wants Γ x H → ta σ H Q
def WpO (Γ : Ctx) (to : TO) (ss : Sd) (k : Option Int → Prop) (x : Prop) : Prop := ∀ Pr G H σ, Vw Γ.M Pr G H → Sl Γ.K G σ ss → ∀ Q : Option Int → Hp → Prop,
  (∀ o G' H', k o → Go Γ.M Pr G H G' H' → Q o H') → Wants Γ x H → to σ H Q
/-- a two-place operation by data -/
def RD (Γ : Ctx) (r : R2) (a b : Dv) (k : Dv → Prop) : Prop := ∀ Pr G H v w, Vw Γ.M Pr G H → DvR Γ.K G v a → DvR Γ.K G w b → ∀ Q : VK,
  (∀ d z G' H', k d → Go Γ.M Pr G H G' H' → DvR Γ.K G' z d → Q z H') → r v w H Q
/-- a call of a value by data -/
def RC (Γ : Ctx) (r : List V → Hp → VK → Prop) (as : List Dv) (k : Dv → Prop) : Prop := ∀ Pr G H vs, Vw Γ.M Pr G H → DvAll Γ.K G vs as → ∀ Q : VK,
  (∀ d z G' H', k d → Go Γ.M Pr G H G' H' → DvR Γ.K G' z d → Q z H') → r vs H Q
/-- a method by data -/
def RM (Γ : Ctx) (T : String) (r : V → List V → Hp → VK → Prop) (a : Dv) (as : List Dv) (k : Dv → Prop) : Prop := ∀ Pr G H v vs, Vw Γ.M Pr G H → DvR Γ.K G v a → DvAll Γ.K G vs as → ∀ Q : VK,
  (∀ d z G' H', k d → Go Γ.M Pr G H G' H' → DvR Γ.K G' z d → Q z H') → r v vs H Q

section
variable {Γ : Ctx} {ss : Sd} {k : Dv → Prop} {kb : Bool → Prop} {x : Prop} {ta tb te tc : TE} {tt tu : TT} {tr : TA}
theorem Wp.imp {k' : Dv → Prop} (h : Wp Γ te ss k x) (i : ∀ d, k d → k' d) : Wp Γ te ss k' x := fun Pr G H σ v s Q hq hx => h Pr G H σ v s Q (fun d z G' H' hk => hq d z G' H' (i d hk)) hx
theorem Wp.impx {x' : Prop} (h : Wp Γ te ss k x) (i : x → x') : Wp Γ te ss k x' := fun Pr G H σ v s Q hq hx => h Pr G H σ v s Q hq fun z => hx (i z)
theorem WpT.imp {k' : Bool → Prop} (h : WpT Γ tt ss kb x) (i : ∀ b, kb b → k' b) : WpT Γ tt ss k' x := fun Pr G H σ v s Q hq hx => h Pr G H σ v s Q (fun b G' H' hk => hq b G' H' (i b hk)) hx
theorem wp_var {i : Nat} {d : Dv} (h : ss[i]? = some (some d)) (q : k d) : Wp Γ (tVar i) ss k x := fun Pr G H σ v s Q hq _ => by
  obtain ⟨z, ez, rz⟩ := s.get h
  exact ⟨z, ez, hq d z G H q (Go.refl v) rz⟩
theorem wp_int {i : Int} (q : k (.d (.int i))) : Wp Γ (tC (.int i)) ss k x := fun Pr G H σ v s Q hq _ => hq _ _ G H q (Go.refl v) (.int i)
theorem wp_str {z : Str} (q : k (.d (.str z))) : Wp Γ (tC (.str z)) ss k x := fun Pr G H σ v s Q hq _ => hq _ _ G H q (Go.refl v) (.str z)
theorem wp_bl {b : Bool} (q : k (.d (.bool b))) : Wp Γ (tC (.bl b)) ss k x := fun Pr G H σ v s Q hq _ => hq _ _ G H q (Go.refl v) (.bl b)
theorem wp_non (q : k (.d .none)) : Wp Γ (tC .non) ss k x := fun Pr G H σ v s Q hq _ => hq _ _ G H q (Go.refl v) .non
theorem wp_ref {a : Addr} (q : k (.r a)) : Wp Γ (tC (.ref a)) ss k x := fun Pr G H σ v s Q hq _ => hq _ _ G H q (Go.refl v) rfl
/-- a built-in class as a value -/
theorem wp_op {r : R2} (ha : Wp Γ ta ss (fun a => Wp Γ tb ss (fun b => RD Γ r a b k) x) x) : Wp Γ (tOp r ta tb) ss k x := fun Pr G H σ v s Q hq hx =>
  ha Pr G H σ v s _ (fun a va G1 H1 h1 g1 ra => h1 Pr G1 H1 σ g1.vw (s.mono g1.g) _ (fun b vb G2 H2 h2 g2 rb => h2 Pr G2 H2 va vb g2.vw (ra.mono g2.g) rb Q
    fun d z G3 H3 hk g3 rd => hq d z G3 H3 hk ((g1.trans g2).trans g3) rd) (hx.on g1.h)) hx
theorem wt_test (h : Wp Γ te ss (fun d => ∃ b, d = .d (.bool b) ∧ kb b) x) : WpT Γ (tTest te) ss kb x := fun Pr G H σ v s Q hq hx =>
  h Pr G H σ v s _ (fun d z G1 H1 ⟨b, ed, hb⟩ g rd => by
    subst ed
    cases rd
    exact ⟨b, rfl, hq b G1 H1 hb g⟩) hx
theorem wt_B (h : Wp Γ te ss (fun d => ∃ b, d = .d (.bool b) ∧ kb b) x) : WpT Γ (tB te) ss kb x := fun Pr G H σ v s Q hq hx =>
  h Pr G H σ v s _ (fun d z G1 H1 ⟨b, ed, hb⟩ g rd => by
    subst ed
    cases rd
    exact ⟨b, rfl, hq b G1 H1 hb g⟩) hx
theorem wt_and (h : WpT Γ tt ss (fun b => if b = true then WpT Γ tu ss kb x else kb false) x) : WpT Γ (tAnd tt tu) ss kb x := fun Pr G H σ v s Q hq hx =>
  h Pr G H σ v s _ (fun b G1 H1 hb g => by
    cases b with
    | true => exact hb Pr G1 H1 σ g.vw (s.mono g.g) Q (fun b' G2 H2 h2 g2 => hq b' G2 H2 h2 (g.trans g2)) (hx.on g.h)
    | false => exact hq false G1 H1 hb g) hx
theorem wt_or (h : WpT Γ tt ss (fun b => if b = true then kb true else WpT Γ tu ss kb x) x) : WpT Γ (tOr tt tu) ss kb x := fun Pr G H σ v s Q hq hx =>
  h Pr G H σ v s _ (fun b G1 H1 hb g => by
    cases b with
    | true => exact hq true G1 H1 hb g
    | false => exact hb Pr G1 H1 σ g.vw (s.mono g.g) Q (fun b' G2 H2 h2 g2 => hq b' G2 H2 h2 (g.trans g2)) (hx.on g.h)) hx
theorem wt_not (h : WpT Γ tt ss (fun b => kb (!b)) x) : WpT Γ (tNot tt) ss kb x := fun Pr G H σ v s Q hq hx =>
  h Pr G H σ v s _ (fun b G1 H1 hb g => hq (!b) G1 H1 hb g) hx
theorem wp_andV (h : Wp Γ ta ss (fun d => ∃ b, d = .d (.bool b) ∧ if b = true then Wp Γ tb ss k x else k (.d (.bool false))) x) : Wp Γ (tAndV ta tb) ss k x := fun Pr G H σ v s Q hq hx =>
  h Pr G H σ v s _ (fun d z G1 H1 ⟨b, ed, hb⟩ g rd => by
    subst ed
    cases rd
    refine ⟨b, rfl, ?_⟩
    cases b with
    | true => exact hb Pr G1 H1 σ g.vw (s.mono g.g) Q (fun d' z' G2 H2 h2 g2 => hq d' z' G2 H2 h2 (g.trans g2)) (hx.on g.h)
    | false => exact hq _ _ G1 H1 hb g (.bl false)) hx
theorem wp_orV (h : Wp Γ ta ss (fun d => ∃ b, d = .d (.bool b) ∧ if b = true then k (.d (.bool true)) else Wp Γ tb ss k x) x) : Wp Γ (tOrV ta tb) ss k x := fun Pr G H σ v s Q hq hx =>
  h Pr G H σ v s _ (fun d z G1 H1 ⟨b, ed, hb⟩ g rd => by
    subst ed
    cases rd
    refine ⟨b, rfl, ?_⟩
    cases b with
    | true => exact hq _ _ G1 H1 hb g (.bl true)
    | false => exact hb Pr G1 H1 σ g.vw (s.mono g.g) Q (fun d' z' G2 H2 h2 g2 => hq d' z' G2 H2 h2 (g.trans g2)) (hx.on g.h)) hx
theorem wp_notV (h : Wp Γ ta ss (fun d => ∃ b, d = .d (.bool b) ∧ k (.d (.bool (!b)))) x) : Wp Γ (tNotV ta) ss k x := fun Pr G H σ v s Q hq hx =>
  h Pr G H σ v s _ (fun d z G1 H1 ⟨b, ed, hb⟩ g rd => by
    subst ed
    cases rd
    exact ⟨b, rfl, hq _ _ G1 H1 hb g (.bl _)⟩) hx
theorem wp_if (h : WpT Γ tt ss (fun b => if b = true then Wp Γ ta ss k x else Wp Γ tb ss k x) x) : Wp Γ (tIf tt ta tb) ss k x := fun Pr G H σ v s Q hq hx =>
  h Pr G H σ v s _ (fun b G1 H1 hb g => by
    cases b with
    | true => exact hb Pr G1 H1 σ g.vw (s.mono g.g) Q (fun d' z' G2 H2 h2 g2 => hq d' z' G2 H2 h2 (g.trans g2)) (hx.on g.h)
    | false => exact hb Pr G1 H1 σ g.vw (s.mono g.g) Q (fun d' z' G2 H2 h2 g2 => hq d' z' G2 H2 h2 (g.trans g2)) (hx.on g.h)) hx
/-- a < b < c -/
theorem wp_chain {r r' : R2} (h : Wp Γ ta ss (fun a => Wp Γ tb ss (fun b => RD Γ r a b fun d => ∃ c, d = .d (.bool c) ∧ if c = true then Wp Γ tc ss (fun e => RD Γ r' b e k) x else k (.d (.bool false))) x) x) :
    Wp Γ (tChain r r' ta tb tc) ss k x := fun Pr G H σ v s Q hq hx =>
  h Pr G H σ v s _ (fun a va G1 H1 h1 g1 ra => h1 Pr G1 H1 σ g1.vw (s.mono g1.g) _ (fun b vb G2 H2 h2 g2 rb => h2 Pr G2 H2 va vb g2.vw (ra.mono g2.g) rb _
    fun d z G3 H3 ⟨c, ed, hc⟩ g3 rd => by
      subst ed
      cases rd
      refine ⟨c, rfl, ?_⟩
      cases c with
      | true => exact hc Pr G3 H3 σ g3.vw (s.mono ((g1.trans g2).trans g3).g) _ (fun e ve G4 H4 h4 g4 re => h4 Pr G4 H4 vb ve g4.vw (rb.mono (g3.trans g4).g) re Q
          fun d' z' G5 H5 hk g5 rd' => hq d' z' G5 H5 hk ((((g1.trans g2).trans g3).trans g4).trans g5) rd') (hx.on ((g1.trans g2).trans g3).h)
      | false => exact hq _ _ G3 H3 hc ((g1.trans g2).trans g3) (.bl false)) (hx.on g1.h)) hx
/-! arguments, displays -/
theorem wa_nil {k : List Dv → Prop} (q : k []) : WpA Γ tNil ss k x := fun Pr G H σ v s Q hq _ => hq [] [] G H q (Go.refl v) .nil
theorem wa_cons {k : List Dv → Prop} (h : Wp Γ ta ss (fun a => WpA Γ tr ss (fun as => k (a :: as)) x) x) : WpA Γ (tCons ta tr) ss k x := fun Pr G H σ v s Q hq hx =>
  h Pr G H σ v s _ (fun a va G1 H1 h1 g1 ra => h1 Pr G1 H1 σ g1.vw (s.mono g1.g) _ (fun as vs G2 H2 h2 g2 rs => hq (a :: as) (va :: vs) G2 H2 h2 (g1.trans g2) (.cons (ra.mono g2.g) rs)) (hx.on g1.h)) hx
theorem wp_cb {r : List V → Hp → VK → Prop} (h : WpA Γ tr ss (fun as => RC Γ r as k) x) : Wp Γ (tCB r tr) ss k x := fun Pr G H σ v s Q hq hx =>
  h Pr G H σ v s _ (fun as vs G1 H1 h1 g1 rs => h1 Pr G1 H1 vs g1.vw rs Q fun d z G2 H2 hk g2 rd => hq d z G2 H2 hk (g1.trans g2) rd) hx
end
/-- data of slots -/
inductive IsD : List Dv → List PyData → Prop
  | nil : IsD [] []
  | cons (x : PyData) {as : List Dv} {xs : List PyData} (t : IsD as xs) : IsD (.d x :: as) (x :: xs)
theorem DvAll.dq {K : PySem.W.Frag} {G : Hp} {vs : List V} {ds : List Dv} {xs : List PyData} (h : DvAll K G vs ds) (i : IsD ds xs) : DqAll K G vs xs := by
  induction i generalizing vs with
  | nil =>
    cases h
    exact .nil
  | cons x t ih =>
    cases h with
    | cons h t => exact .cons h (ih t)
section
variable {Γ : Ctx} {ss : Sd} {k : Dv → Prop} {kb : Bool → Prop} {x : Prop} {ta tb te tc : TE} {tt tu : TT} {tr : TA}
theorem wp_tup (h : WpA Γ tr ss (fun as => ∃ xs, IsD as xs ∧ xs.length ≤ sizeLine ∧ k (.d (.tuple xs))) x) : Wp Γ (tTup tr) ss k x := fun Pr G H σ v s Q hq hx =>
  h Pr G H σ v s _ (fun as vs G1 H1 ⟨xs, i, hl, hk⟩ g1 rs => ⟨by rw [dqAll_length (rs.dq i)]; exact hl, fun p hp => by
    have n := g1.vw.new (o := .tup vs) hp
    exact hq _ _ _ _ hk (g1.trans n) (.tup (SqT.of upd_same) (dqAll_mono n.g (rs.dq i)))⟩) hx
theorem wp_lst (h : WpA Γ tr ss (fun as => ∃ xs, IsD as xs ∧ xs.length ≤ sizeLine ∧ k (.d (.list xs))) x) : Wp Γ (tLst tr) ss k x := fun Pr G H σ v s Q hq hx =>
  h Pr G H σ v s _ (fun as vs G1 H1 ⟨xs, i, hl, hk⟩ g1 rs => ⟨by rw [dqAll_length (rs.dq i)]; exact hl, fun p hp => by
    have n := g1.vw.new (o := .lst vs) hp
    exact hq _ _ _ _ hk (g1.trans n) (.lst upd_same (dqAll_mono n.g (rs.dq i)))⟩) hx
/-! slices -/
theorem wo_none {k : Option Int → Prop} (q : k none) : WpO Γ tNoPart ss k x := fun Pr G H σ v s Q hq _ => hq none G H q (Go.refl v)
theorem wo_some {k : Option Int → Prop} (h : Wp Γ te ss (fun d => ∃ i, d = .d (.int i) ∧ k (some i)) x) : WpO Γ (tPart te) ss k x := fun Pr G H σ v s Q hq hx =>
  h Pr G H σ v s _ (fun d z G1 H1 ⟨i, ed, hk⟩ g rd => by
    subst ed
    cases rd
    exact ⟨i, rfl, hq (some i) G1 H1 hk g⟩) hx
/-- a slice by data -/
def RS (Γ : Ctx) (r : V → Option Int → Option Int → Hp → VK → Prop) (a : Dv) (lo hi : Option Int) (k : Dv → Prop) : Prop := ∀ Pr G H v, Vw Γ.M Pr G H → DvR Γ.K G v a → ∀ Q : VK,
  (∀ d z G' H', k d → Go Γ.M Pr G H G' H' → DvR Γ.K G' z d → Q z H') → r v lo hi H Q
theorem wp_sl {r : V → Option Int → Option Int → Hp → VK → Prop} {tl th : TO} (h : Wp Γ te ss (fun a => WpO Γ tl ss (fun lo => WpO Γ th ss (fun hi => RS Γ r a lo hi k) x) x) x) : Wp Γ (tSl r te tl th) ss k x := fun Pr G H σ v s Q hq hx =>
  h Pr G H σ v s _ (fun a va G1 H1 h1 g1 ra => h1 Pr G1 H1 σ g1.vw (s.mono g1.g) _ (fun lo G2 H2 h2 g2 => h2 Pr G2 H2 σ g2.vw (s.mono (g1.trans g2).g) _ (fun hi G3 H3 h3 g3 => h3 Pr G3 H3 va g3.vw (ra.mono (g2.trans g3).g) Q
    fun d z G4 H4 hk g4 rd => hq d z G4 H4 hk (((g1.trans g2).trans g3).trans g4) rd) (hx.on (g1.trans g2).h)) (hx.on g1.h)) hx
end

/-! ### statements -/
structure EndD where
  nx : Sd → Prop
  rt : Dv → Prop
  x : Prop
def WpS (Γ : Ctx) (t : TS) (ss : Sd) (e : EndD) : Prop := ∀ Pr G H σ, Vw Γ.M Pr G H → Sl Γ.K G σ ss → ∀ D : Ends,
  (∀ ss' σ' G' H', e.nx ss' → Go Γ.M Pr G H G' H' → Sl Γ.K G' σ' ss' → D.nx σ' H') → (∀ d v G' H', e.rt d → Go Γ.M Pr G H G' H' → DvR Γ.K G' v d → D.rt v H') → Wants Γ e.x H → t D σ H
section
variable {Γ : Ctx} {ss : Sd} {e : EndD} {te : TE} {tt : TT} {t u : TS}
theorem WpS.imp {e' : EndD} (h : WpS Γ t ss e) (hn : ∀ s, e.nx s → e'.nx s) (hr : ∀ d, e.rt d → e'.rt d) (hx : e.x → e'.x) : WpS Γ t ss e' := fun Pr G H σ v s D kn kr kx =>
  h Pr G H σ v s D (fun ss' σ' G' H' z => kn ss' σ' G' H' (hn _ z)) (fun d w G' H' z => kr d w G' H' (hr _ z)) fun z => kx (hx z)
theorem ws_seq (h : WpS Γ t ss { e with nx := fun s => WpS Γ u s e }) : WpS Γ (tSeq t u) ss e := fun Pr G H σ v s D kn kr kx =>
  h Pr G H σ v s { D with nx := u D } (fun ss' σ' G' H' hu g s' => hu Pr G' H' σ' g.vw s' D (fun ss2 σ2 G2 H2 z g2 s2 => kn ss2 σ2 G2 H2 z (g.trans g2) s2)
    (fun d w G2 H2 z g2 r2 => kr d w G2 H2 z (g.trans g2) r2) (kx.on g.h)) kr kx
theorem ws_nx (h : e.nx ss) : WpS Γ tNext ss e := fun Pr G H σ v s D kn kr kx => kn ss σ G H h (Go.refl v) s
theorem ws_set {i : Nat} (h : Wp Γ te ss (fun d => e.nx (ss.set i (some d))) e.x) : WpS Γ (tAsg te (gName i)) ss e := fun Pr G H σ v s D kn kr kx =>
  h Pr G H σ v s _ (fun d w G1 H1 hk g rd => kn _ _ G1 H1 hk g (Sl.set rd i (s.mono g.g))) kx
theorem ws_ret (h : Wp Γ te ss e.rt e.x) : WpS Γ (tRet te) ss e := fun Pr G H σ v s D kn kr kx =>
  h Pr G H σ v s _ (fun d w G1 H1 hk g rd => kr d w G1 H1 hk g rd) kx
theorem ws_drop (h : Wp Γ te ss (fun _ => e.nx ss) e.x) : WpS Γ (tDrop te) ss e := fun Pr G H σ v s D kn kr kx =>
  h Pr G H σ v s _ (fun d w G1 H1 hk g rd => kn ss σ G1 H1 hk g (s.mono g.g)) kx
theorem ws_if (h : WpT Γ tt ss (fun b => if b = true then WpS Γ t ss e else WpS Γ u ss e) e.x) : WpS Γ (tIfS tt t u) ss e := fun Pr G H σ v s D kn kr kx =>
  h Pr G H σ v s _ (fun b G1 H1 hb g => by
    cases b with
    | true => exact hb Pr G1 H1 σ g.vw (s.mono g.g) D (fun ss2 σ2 G2 H2 z g2 s2 => kn ss2 σ2 G2 H2 z (g.trans g2) s2) (fun d w G2 H2 z g2 r2 => kr d w G2 H2 z (g.trans g2) r2) (kx.on g.h)
    | false => exact hb Pr G1 H1 σ g.vw (s.mono g.g) D (fun ss2 σ2 G2 H2 z g2 s2 => kn ss2 σ2 G2 H2 z (g.trans g2) s2) (fun d w G2 H2 z g2 r2 => kr d w G2 H2 z (g.trans g2) r2) (kx.on g.h)) kx
/-- targets of a tuple: names -/
inductive GN : TGs → List Nat → Prop
  | nil : GN gNil []
  | cons (i : Nat) {t : TGs} {is : List Nat} (h : GN t is) : GN (gCons (gName i) t) (i :: is)
def setAll : Sd → List Nat → List PyData → Sd
  | ss, i :: is, x :: xs => setAll (ss.set i (some (.d x))) is xs
  | ss, _, _ => ss
theorem gn_run {K : PySem.W.Frag} {G H : Hp} : ∀ {t : TGs} {is : List Nat} {xs : List PyData} {vs : List V} {σ : L2.St} {ss : Sd} {Q : L2.St → Hp → Prop}, GN t is → DqAll K G vs xs → is.length = xs.length → Sl K G σ ss →
    (∀ σ', Sl K G σ' (setAll ss is xs) → Q σ' H) → t vs σ H Q
  | _, _, _, _, σ, _, _, .nil, .nil, _, s, q => ⟨rfl, q σ s⟩
  | _, _, _, _, _, _, _, .cons i h, .cons (v := v) (vs := vs) (d := x) hv a, hl, s, q => ⟨v, vs, rfl, gn_run h a (Nat.succ.inj hl) (Sl.set (d := .d x) hv i s) q⟩
  | _, _, _, _, _, _, _, .nil, .cons _ _, hl, _, _ => by cases hl
  | _, _, _, _, _, _, _, .cons _ _, .nil, hl, _, _ => by cases hl
theorem ws_unp {n : Nat} {tg : TGs} {is : List Nat} (hg : GN tg is) (h : Wp Γ te ss (fun d => ∃ xs, d = .d (.tuple xs) ∧ xs.length = n ∧ is.length = n ∧ e.nx (setAll ss is xs)) e.x) : WpS Γ (tAsg te (gTup Γ.K n tg)) ss e := fun Pr G H σ v s D kn kr kx =>
  h Pr G H σ v s _ (fun d w G1 H1 ⟨xs, ed, hl, hi, hk⟩ g rd => by
    subst ed
    have rd' : Dq Γ.K G1 w (.tuple xs) := rd
    cases rd' with
    | @tup a vs _ hs ha =>
      exact ⟨a, vs, rfl, sqt_mono g.vw.sm hs, by rw [dqAll_length ha]; exact hl, gn_run hg ha (by omega) (s.mono g.g) fun σ' s' => kn _ _ G1 H1 hk g s'⟩) kx
end

/-! ### promises -/
/-- a def's promise by data. α: what its arguments tell, arg: the arguments, M: the cells, A: what is asked, P: what it may hand back, X: whether it may raise -/
def spD {α : Type} (K : PySem.W.Frag) (C : Addr) (M : α → Mode) (arg : α → List Dv) (A : α → Prop) (P : α → PyData → Prop) (X : α → Prop) : Sp := fun vs H Q E => ∃ a G Pr, A a ∧ DvAll K G vs (arg a) ∧ Vw (M a) Pr G H ∧
  (∀ d v G' H', P a d → Go (M a) Pr G H G' H' → Dq K G' v d → Q v H') ∧ (X a → ∀ (dd : Addr) (fs : List (Str × V)) (H' : Hp), Kp (M a) H H' → H' dd = some (.xd fs) → E (.ref C) (some dd) H')
section
variable {α : Type} {Γ : Ctx} {ss : Sd} {k : Dv → Prop} {x : Prop} {tr : TA} {M : α → Mode} {arg : α → List Dv} {A : α → Prop} {P : α → PyData → Prop} {X : α → Prop} {f : α → PyData}
theorem sp_len {K : PySem.W.Frag} {C : Addr} {n : Nat} (hA : ∀ a, A a → (arg a).length = n) : ∀ (vs : List V) (H : Hp) (Q : VK) (E : XK), spD K C M arg A P X vs H Q E → vs.length = n := fun vs H Q E ⟨a, G, Pr, ha, hv, _⟩ => (Paired.length hv).trans (hA a ha)
/-- a def called -/
theorem wp_call {E : XK} (hE : E = Γ.E ∨ ∀ a, ¬ X a) (h : WpA Γ tr ss (fun ds => ∃ a, ds = arg a ∧ A a ∧ Mode.Sub (M a) Γ.M ∧ (∀ d, P a d → k (.d d)) ∧ (X a → x)) x) : Wp Γ (tCall (spD Γ.K Γ.C M arg A P X) [] E tr) ss k x := fun Pr G H σ v s Q hq hx =>
  h Pr G H σ v s _ (fun ds vs G1 H1 ⟨a, ed, ha, u, hp, hxx⟩ g rs => by
    subst ed
    refine ⟨a, G1, Pr, ha, by rw [List.append_nil]; exact rs, g.vw.sub u, fun d w G2 H2 hd g2 rd => ?_, fun z dd fs H2 k2 hd => ?_⟩
    · exact hq (.d d) w G2 H2 (hp d hd) (g.trans (g2.sub u g.vw)) rd
    · rcases hE with e | e
      · rw [e]
        exact hx (hxx z) dd fs H2 (g.h.trans (k2.own u.own)) hd
      · exact absurd z (e a)) hx
/-- a def that hands back one value and raises nothing -/
theorem wp_callF {E : XK} (h : WpA Γ tr ss (fun ds => ∃ a, ds = arg a ∧ A a ∧ k (.d (f a))) x) : Wp Γ (tCall (spD Γ.K Γ.C (fun _ => Mode.no) arg A (fun a y => y = f a) (fun _ => False)) [] E tr) ss k x :=
  wp_call (.inr fun _ z => z) fun Pr G H σ v s Q hq hx => h Pr G H σ v s Q (fun ds vs G' H' ⟨a, e, ha, hk⟩ => hq ds vs G' H' ⟨a, e, ha, .no, fun d hd => by rw [hd]; exact hk, fun z => z.elim⟩) hx
/-- .. the name of the def stands in a slot -/
theorem wp_callL {E : XK} {i : Nat} {f : Addr} (hi : ss[i]? = some (some (.r f))) (h : Wp Γ (tCall (spD Γ.K Γ.C M arg A P X) [] E tr) ss k x) : Wp Γ (tCallL i f (spD Γ.K Γ.C M arg A P X) [] E tr) ss k x := fun Pr G H σ v s Q hq hx => by
  obtain ⟨z, ez, rz⟩ := s.get hi
  have e : z = .ref f := rz
  subst e
  exact ⟨ez, h Pr G H σ v s Q hq hx⟩
/-- a statement of fewer cells -/
theorem WpS.sub {M' : Mode} {t : TS} {e : EndD} (u : Mode.Sub M' Γ.M) (h : WpS { Γ with M := M' } t ss e) : WpS Γ t ss e := fun Pr G H σ v s D kn kr kx =>
  h Pr G H σ (v.sub u) s D (fun ss' σ' G' H' z g s' => kn ss' σ' G' H' z (g.sub u v) s') (fun d w G' H' z g r => kr d w G' H' z (g.sub u v) r) fun z dd fs H' k hd => kx z dd fs H' (k.own u.own) hd
end
/-- what a body is to show -/
def startD (N : List Str) (ds : List Dv) : Sd := ds.map some ++ List.replicate (N.length - ds.length) none
theorem sl_rep {K : PySem.W.Frag} {G : Hp} : ∀ n : Nat, Sl K G (List.replicate n none) (List.replicate n none)
  | 0 => .nil
  | n + 1 => .cons trivial (sl_rep n)
theorem sl_app {K : PySem.W.Frag} {G : Hp} {σ' : L2.St} {ss' : Sd} (h' : Sl K G σ' ss') : ∀ {vs : List V} {ds : List Dv}, DvAll K G vs ds → Sl K G (vs.map some ++ σ') (ds.map some ++ ss')
  | _, _, .nil => h'
  | _, _, .cons (a := v) h t => .cons ⟨v, rfl, h⟩ (sl_app h' t)
theorem sl_start {K : PySem.W.Frag} {G : Hp} {N : List Str} {vs : List V} {ds : List Dv} (h : DvAll K G vs ds) : Sl K G (L2.start N vs) (startD N ds) := by
  unfold L2.start startD
  rw [Paired.length h]
  exact sl_app (sl_rep _) h
end K84

/-! part K84O -/
set_option maxHeartbeats 2000000
/-! K84O: operations, calls and methods at data level; the rules that HandS lacks. -/
namespace K84
open PySem PySem.Spec PyProof.Rows L2

/-! ### rules of our own -/
section
variable {X : Cx}
def rInT (K : PySem.W.Frag) : R2 := fun x y H Q => ∃ d ds, Dp K H x d ∧ Dp K H y (.tuple ds) ∧ SeqAt.shaped d = true ∧ SeqAt.shaped (.tuple ds) = true ∧ Q (.bl (ds.any fun z => PyData.eqv z d)) H
theorem op_inT (hu : X.A.units + 65 < cLine) : OpR X (compareOp .In) (rInT X.K) := by
  intro pins s σ H x y v u Q I rx ry h
  obtain ⟨d, ds, hd, he, sd, se, q⟩ := h
  obtain ⟨as, r1⟩ := Dp.reads I d x v hd rx
  obtain ⟨bs, r2⟩ := Dp.reads I (.tuple ds) y u he ry
  exact SeqAt.in_tuple_reads r2 r1 (SeqAt.canLay_of_shaped se) (SeqAt.canLay_of_shaped sd) (room_in_shaped sd hu) ⟨.bl _, H, I, rfl, q⟩
/-- t < u of alike data -/
def rLtD (K : PySem.W.Frag) : R2 := fun x y H Q => ∃ d e, Dp K H x d ∧ Dp K H y e ∧ PySem.W.alike d e = true ∧ d ≠ .none ∧ d.depth ≤ 64 ∧ Q (.bl (PySem.W.dataLt d e)) H
/-- text * int -/
def rMulS : R2 := fun x y H Q => ∃ z i, x = .str z ∧ y = .int i ∧ 0 ≤ i ∧ i ≤ 1000 ∧ z.length ≤ 1000 ∧ Q (.str (Txt.mul z i)) H
theorem mul_ok {z : Str} {i : Int} (h0 : 0 ≤ i) (h1 : i ≤ 1000) (hz : z.length ≤ 1000) : MulOk z i := by
  have hk : ∃ n : Nat, i = (n : Int) := ⟨i.toNat, by omega⟩
  obtain ⟨n, rfl⟩ := hk
  refine ⟨?_, fun h2 _ => ?_, fun h2 _ => ?_⟩
  · rw [decide_eq_false (by omega), decide_eq_false (by omega)]
    rfl
  · have hn : (1 : Int) ≤ (n : Int) := by omega
    have h3 : ((2 : Int) ^ 63 - 1) / (n : Int) ≥ (2 ^ 63 - 1) / 1000 := by
      have a : (2 ^ 63 - 1 : Int) / 1000 * (n : Int) ≤ 2 ^ 63 - 1 := by
        have b : (n : Int) ≤ 1000 := h1
        have c : (2 ^ 63 - 1 : Int) / 1000 = 9223372036854775 := by decide
        rw [c]
        omega
      exact (Int.le_ediv_iff_mul_le (by omega)).mpr a
    have c : (2 ^ 63 - 1 : Int) / 1000 = 9223372036854775 := by decide
    rw [c] at h3
    omega
  · have a : z.length * (n : Int).toNat ≤ 1000 * 1000 := Nat.mul_le_mul hz (by omega)
    unfold Builtin.Str.tooLong
    have b := sizeLine_eq
    exact decide_eq_false (by omega)
theorem op_mulS : OpR X (binaryOp .Mult) rMulS := by
  intro pins s σ H x y v u Q I rx ry h
  obtain ⟨z, i, rfl, rfl, h0, h1, hz, q⟩ := h
  obtain ⟨t, rfl⟩ := rx
  obtain ⟨t', rfl⟩ := ry
  exact SB.mul (mul_ok h0 h1 hz) fun t' k => ⟨.str _, H, I.tok _, ⟨_, rfl⟩, q⟩
/-- str(x) of an int or a text -/
def rStr : List V → Hp → VK → Prop := fun xs H Q => (∃ i, xs = [.int i] ∧ i.natAbs.log2 < 1920 ∧ Q (.str (toString i)) H) ∨ ∃ a, xs = [.str a] ∧ Q (.str a) H
theorem call_str : CallR X (.type "str") rStr := CallR.or call_str_int SkE.call_str_str
theorem op_ltD (hu : X.A.units + 64 < cLine) : OpR X (compareOp .Lt) (rLtD X.K) := by
  intro pins s σ H x y v u Q I rx ry h
  obtain ⟨d, e, hd, he, ha, hn, hz, q⟩ := h
  obtain ⟨as, r1⟩ := Dp.reads I d x v hd rx
  obtain ⟨bs, r2⟩ := Dp.reads I e y u he ry
  have hm : X.A.units + min d.depth e.depth < cLine := by
    have := Nat.min_le_left d.depth e.depth
    omega
  exact PySem.W.cmp_ofLt (PySem.W.rcLt_alike d e X.A s v u as bs r1 r2 ha hn hm X.prog X.w X.xe _ ⟨.bl _, H, I, rfl, q⟩)
end

/-! ### data rules: two places -/
section
variable {Γ : Ctx} {k : Dv → Prop}
theorem rd_ii {g : Int → Int → Int} {i j : Int} (q : k (.d (.int (g i j)))) : RD Γ (rI0 fun i j => .int (g i j)) (.d (.int i)) (.d (.int j)) k := fun Pr G H v w vw ra rb Q hq => by
  cases ra
  cases rb
  exact ⟨i, j, rfl, rfl, hq _ _ G H q (Go.refl vw) (.int _)⟩
theorem rd_ib {g : Int → Int → Bool} {i j : Int} (q : k (.d (.bool (g i j)))) : RD Γ (rI0 fun i j => .bl (g i j)) (.d (.int i)) (.d (.int j)) k := fun Pr G H v w vw ra rb Q hq => by
  cases ra
  cases rb
  exact ⟨i, j, rfl, rfl, hq _ _ G H q (Go.refl vw) (.bl _)⟩
theorem rd_iC {C : Int → Int → Prop} {g : Int → Int → Int} {i j : Int} (hc : C i j) (q : k (.d (.int (g i j)))) : RD Γ (rI C fun i j => .int (g i j)) (.d (.int i)) (.d (.int j)) k := fun Pr G H v w vw ra rb Q hq => by
  cases ra
  cases rb
  exact ⟨i, j, rfl, rfl, hc, hq _ _ G H q (Go.refl vw) (.int _)⟩
theorem rd_eq {x y : PyData} (h1 : SeqAt.shaped x = true) (h2 : SeqAt.shaped y = true) (q : k (.d (.bool (PyData.eqv x y)))) : RD Γ (rEqD Γ.K) (.d x) (.d y) k := fun Pr G H v w vw ra rb Q hq =>
  ⟨x, y, (dq_mono vw.sm ra).dp, (dq_mono vw.sm rb).dp, h1, h2, hq _ _ G H q (Go.refl vw) (.bl _)⟩
theorem rd_ne {x y : PyData} (h1 : SeqAt.shaped x = true) (h2 : SeqAt.shaped y = true) (q : k (.d (.bool (!PyData.eqv x y)))) : RD Γ (rNeD Γ.K) (.d x) (.d y) k := fun Pr G H v w vw ra rb Q hq =>
  ⟨x, y, (dq_mono vw.sm ra).dp, (dq_mono vw.sm rb).dp, h1, h2, hq _ _ G H q (Go.refl vw) (.bl _)⟩
theorem rd_inL {x : PyData} {ys : List PyData} (h1 : SeqAt.shaped x = true) (h2 : SeqAt.shaped (.list ys) = true) (q : k (.d (.bool (ys.any fun z => PyData.eqv z x)))) : RD Γ (rInD Γ.K) (.d x) (.d (.list ys)) k := fun Pr G H v w vw ra rb Q hq =>
  ⟨x, ys, (dq_mono vw.sm ra).dp, (dq_mono vw.sm rb).dp, h1, h2, hq _ _ G H q (Go.refl vw) (.bl _)⟩
theorem rd_inT {x : PyData} {ys : List PyData} (h1 : SeqAt.shaped x = true) (h2 : SeqAt.shaped (.tuple ys) = true) (q : k (.d (.bool (ys.any fun z => PyData.eqv z x)))) : RD Γ (rInT Γ.K) (.d x) (.d (.tuple ys)) k := fun Pr G H v w vw ra rb Q hq =>
  ⟨x, ys, (dq_mono vw.sm ra).dp, (dq_mono vw.sm rb).dp, h1, h2, hq _ _ G H q (Go.refl vw) (.bl _)⟩
/-- one sign in a text -/
def rInSg : R2 := fun x y H Q => ∃ (c : Nat) (z : Str), x = .str ⟨#[c]⟩ ∧ y = .str z ∧ Q (.bl (decide (c ∈ z.cps.toList))) H
theorem op_inSg {X : Cx} : OpR X (compareOp .In) rInSg := op_in_sign
theorem rd_inSg {c : Nat} {z : Str} (q : k (.d (.bool (decide (c ∈ z.cps.toList))))) : RD Γ rInSg (.d (.str ⟨#[c]⟩)) (.d (.str z)) k := fun Pr G H v w vw ra rb Q hq => by
  cases ra
  cases rb
  exact ⟨c, z, rfl, rfl, hq _ _ G H q (Go.refl vw) (.bl _)⟩
theorem rd_lt {x y : PyData} (ha : PySem.W.alike x y = true) (hn : x ≠ .none) (hz : x.depth ≤ 64) (q : k (.d (.bool (PySem.W.dataLt x y)))) : RD Γ (rLtD Γ.K) (.d x) (.d y) k := fun Pr G H v w vw ra rb Q hq =>
  ⟨x, y, (dq_mono vw.sm ra).dp, (dq_mono vw.sm rb).dp, ha, hn, hz, hq _ _ G H q (Go.refl vw) (.bl _)⟩
theorem at_get {xs : List PyData} {vs : List V} {i : Int} {x : PyData} {K : PySem.W.Frag} {G : Hp} (a : DqAll K G vs xs) (h : atI xs i = some x) : ∃ v, atI vs i = some v ∧ Dq K G v x := by
  unfold atI at h ⊢
  rw [dqAll_length a]
  cases e : ixN xs.length i with
  | none =>
    rw [e] at h
    cases h
  | some j =>
    rw [e] at h
    exact dqAll_get a h
theorem rd_ixT {xs : List PyData} {i : Int} {x : PyData} (h : atI xs i = some x) (q : k (.d x)) : RD Γ (rIxT Γ.K) (.d (.tuple xs)) (.d (.int i)) k := fun Pr G H v w vw ra rb Q hq => by
  cases rb
  have ra' : Dq Γ.K G v (.tuple xs) := ra
  cases ra' with
  | @tup a vs _ hs ha =>
    obtain ⟨z, ez, rz⟩ := at_get ha h
    exact ⟨a, vs, i, z, rfl, rfl, sqt_mono vw.sm hs, ez, hq _ _ G H q (Go.refl vw) rz⟩
theorem rd_ixL {xs : List PyData} {i : Int} {x : PyData} (h : atI xs i = some x) (q : k (.d x)) : RD Γ (rIxL Γ.K) (.d (.list xs)) (.d (.int i)) k := fun Pr G H v w vw ra rb Q hq => by
  cases rb
  have ra' : Dq Γ.K G v (.list xs) := ra
  cases ra' with
  | @lst a vs _ hs ha =>
    obtain ⟨z, ez, rz⟩ := at_get ha h
    exact ⟨a, vs, i, z, rfl, rfl, SqL.of (vw.sm _ _ hs), ez, hq _ _ G H q (Go.refl vw) rz⟩
theorem rd_ixS {z : Str} {i : Int} {c : Nat} (hz : z.length ≤ sizeLine) (h : atI z.cps.toList i = some c) (q : k (.d (.str ⟨#[c]⟩))) : RD Γ rIxS (.d (.str z)) (.d (.int i)) k := fun Pr G H v w vw ra rb Q hq => by
  cases rb
  cases ra
  exact ⟨z, i, c, rfl, rfl, hz, h, hq _ _ G H q (Go.refl vw) (.str _)⟩
theorem rd_catL {xs ys : List PyData} (hz : xs.length + ys.length ≤ sizeLine) (q : k (.d (.list (xs ++ ys)))) : RD Γ rCat (.d (.list xs)) (.d (.list ys)) k := fun Pr G H v w vw ra rb Q hq => by
  have ra' : Dq Γ.K G v (.list xs) := ra
  have rb' : Dq Γ.K G w (.list ys) := rb
  cases ra' with
  | @lst a vs _ hs ha =>
    cases rb' with
    | @lst b ws _ ht hb =>
      refine ⟨a, b, vs, ws, rfl, rfl, vw.sm _ _ hs, vw.sm _ _ ht, by rw [dqAll_length ha, dqAll_length hb]; exact hz, fun p hp => ?_⟩
      have n := vw.new (o := .lst (vs ++ ws)) hp
      exact hq _ _ _ _ q n (.lst upd_same (dqAll_mono n.g (dqAll_app ha hb)))
theorem rd_catT {xs ys : List PyData} (hx : xs ≠ []) (hz : xs.length + ys.length ≤ sizeLine) (q : k (.d (.tuple (xs ++ ys)))) : RD Γ (rCatT Γ.K) (.d (.tuple xs)) (.d (.tuple ys)) k := fun Pr G H v w vw ra rb Q hq => by
  have ra' : Dq Γ.K G v (.tuple xs) := ra
  have rb' : Dq Γ.K G w (.tuple ys) := rb
  cases ra' with
  | @tup a vs _ hs ha =>
    cases rb' with
    | @tup b ws _ ht hb =>
      refine ⟨a, b, vs, ws, rfl, rfl, sqt_mono vw.sm hs, sqt_mono vw.sm ht, fun e => ?_, by rw [dqAll_length ha, dqAll_length hb]; exact hz, fun e => ?_, fun _ p hp => ?_⟩
      · subst e
        cases ha
        exact hx rfl
      · subst e
        cases hb
        rw [List.append_nil] at q
        exact hq _ _ G H q (Go.refl vw) ra
      · have n := vw.new (o := .tup (vs ++ ws)) hp
        exact hq _ _ _ _ q n (.tup (SqT.of upd_same) (dqAll_mono n.g (dqAll_app ha hb)))
def rCatS2 : R2 := fun x y H Q => ∃ i j, x = .str i ∧ y = .str j ∧ i.length + j.length ≤ sizeLine ∧ Q (.str (i ++ j)) H
theorem op_catS {X : Cx} : OpR X (binaryOp .Add) rCatS2 := op_add_str
theorem rd_catS {y z : Str} (hz : y.length + z.length ≤ sizeLine) (q : k (.d (.str (y ++ z)))) : RD Γ rCatS2 (.d (.str y)) (.d (.str z)) k := fun Pr G H v w vw ra rb Q hq => by
  cases ra
  cases rb
  exact ⟨y, z, rfl, rfl, hz, hq _ _ G H q (Go.refl vw) (.str _)⟩
theorem rd_mulS {z : Str} {i : Int} (h0 : 0 ≤ i) (h1 : i ≤ 1000) (hz : z.length ≤ 1000) (q : k (.d (.str (Txt.mul z i)))) : RD Γ rMulS (.d (.str z)) (.d (.int i)) k := fun Pr G H v w vw ra rb Q hq => by
  cases ra
  cases rb
  exact ⟨z, i, rfl, rfl, h0, h1, hz, hq _ _ G H q (Go.refl vw) (.str _)⟩
/-- is None -/
def rIsNn : R2 := fun x y H Q => y = .non ∧ Q (.bl (decide (x = .non))) H
theorem op_isNn {X : Cx} : OpR X (compareOp .Is) rIsNn := op_isN
def rNotNn : R2 := fun x y H Q => y = .non ∧ Q (.bl (!decide (x = .non))) H
theorem op_notNn {X : Cx} : OpR X (compareOp .IsNot) rNotNn := op_notN
def isNone : PyData → Bool
  | .none => true
  | _ => false
theorem isNone_v {K : PySem.W.Frag} {G : Hp} {v : V} {x : PyData} (h : Dq K G v x) : decide (v = .non) = isNone x := by
  cases h <;> first | rfl | (exact decide_eq_false (fun z => nomatch z))
theorem rd_isN {x : PyData} (q : k (.d (.bool (isNone x)))) : RD Γ rIsNn (.d x) (.d .none) k := fun Pr G H v w vw ra rb Q hq => by
  cases rb
  exact ⟨rfl, by rw [isNone_v ra]; exact hq _ _ G H q (Go.refl vw) (.bl _)⟩
theorem rd_notN {x : PyData} (q : k (.d (.bool (!isNone x)))) : RD Γ rNotNn (.d x) (.d .none) k := fun Pr G H v w vw ra rb Q hq => by
  cases rb
  exact ⟨rfl, by rw [isNone_v ra]; exact hq _ _ G H q (Go.refl vw) (.bl _)⟩
end

/-! ### data rules: calls -/
def rLenD (K : PySem.W.Frag) : List V → Hp → VK → Prop := fun xs H Q => ∃ x n, xs = [x] ∧ LenV K x H n ∧ Q (.int (n : Nat)) H
theorem call_lenD2 {X : Cx} : CallR X (.builtin "len") (rLenD X.K) := call_len
/-- the length of data that has one -/
def lenD : PyData → Option Nat
  | .str z => if z.length ≤ 16777216 then some z.length else none
  | .list xs => some xs.length
  | .tuple xs => some xs.length
  | _ => none
section
variable {Γ : Ctx} {k : Dv → Prop} {ss : Sd} {x : Prop} {te : TE}
theorem lenV_of {K : PySem.W.Frag} {G H : Hp} {v : V} {d : PyData} {n : Nat} (s : Same G H) (h : Dq K G v d) (e : lenD d = some n) : LenV K v H n := by
  cases h with
  | str z =>
    have e' : (if z.length ≤ 16777216 then some z.length else none) = some n := e
    by_cases c : z.length ≤ 16777216
    · rw [if_pos c] at e'
      exact ⟨by rw [sizeLine_eq]; exact c, (Option.some.inj e').symm⟩
    · rw [if_neg c] at e'
      cases e'
  | lst hs ha =>
    have e' := Option.some.inj e
    exact .inl ⟨_, SqL.of (s _ _ hs), by rw [dqAll_length ha]; exact e'.symm⟩
  | tup hs ha =>
    have e' := Option.some.inj e
    exact .inr ⟨_, sqt_mono s hs, by rw [dqAll_length ha]; exact e'.symm⟩
  | _ => cases e
theorem rc_len {d : PyData} {n : Nat} (e : lenD d = some n) (q : k (.d (.int (n : Nat)))) : RC Γ (rLenD Γ.K) [.d d] k := fun Pr G H vs vw ra Q hq => by
  cases ra with
  | cons h t =>
    cases t
    exact ⟨_, n, rfl, lenV_of vw.sm h e, hq _ _ G H q (Go.refl vw) (.int _)⟩
theorem rc_all {bs : List Bool} (q : k (.d (.bool (bs.all id)))) : RC Γ (rAll Γ.K) [.d (.list (bs.map PyData.bool))] k := fun Pr G H vs vw ra Q hq => by
  cases ra with
  | @cons v _ _ _ h t =>
    cases t
    have h' : Dq Γ.K G v (.list (bs.map PyData.bool)) := h
    cases h' with
    | @lst a ws _ hs ha =>
      have e := dqAll_bools ha
      subst e
      exact ⟨a, bs, rfl, SqL.of (vw.sm _ _ hs), hq _ _ G H q (Go.refl vw) (.bl _)⟩
theorem rc_strI {i : Int} (hz : i.natAbs.log2 < 1920) (q : k (.d (.str (toString i)))) : RC Γ rStr [.d (.int i)] k := fun Pr G H vs vw ra Q hq => by
  cases ra with
  | cons h t =>
    cases t
    cases h
    exact .inl ⟨i, rfl, hz, hq _ _ G H q (Go.refl vw) (.str _)⟩
theorem rc_strS {z : Str} (q : k (.d (.str z))) : RC Γ rStr [.d (.str z)] k := fun Pr G H vs vw ra Q hq => by
  cases ra with
  | cons h t =>
    cases t
    cases h
    exact .inr ⟨z, rfl, hq _ _ G H q (Go.refl vw) (.str _)⟩
def rIntS : List V → Hp → VK → Prop := fun xs H Q => ∃ a n, xs = [.str a] ∧ PySem.intText? a = some n ∧ a.length ≤ 640 ∧ Q (.int n) H
theorem call_intS {X : Cx} : CallR X (.type "int") rIntS := call_int_str
theorem rc_intS {z : Str} {n : Int} (e : PySem.intText? z = some n) (hz : z.length ≤ 640) (q : k (.d (.int n))) : RC Γ rIntS [.d (.str z)] k := fun Pr G H vs vw ra Q hq => by
  cases ra with
  | cons h t =>
    cases t
    cases h
    exact ⟨z, n, rfl, e, hz, hq _ _ G H q (Go.refl vw) (.int _)⟩
def rIntB : List V → Hp → VK → Prop := fun xs H Q => (∃ i, xs = [.int i] ∧ Q (.int i) H) ∨ ∃ k, xs = [.bl k] ∧ Q (.int (if k then 1 else 0)) H
theorem call_intB {X : Cx} : CallR X (.type "int") rIntB := call_int1
theorem rc_intB {b : Bool} (q : k (.d (.int (if b then 1 else 0)))) : RC Γ rIntB [.d (.bool b)] k := fun Pr G H vs vw ra Q hq => by
  cases ra with
  | cons h t =>
    cases t
    cases h
    exact .inr ⟨b, rfl, hq _ _ G H q (Go.refl vw) (.int _)⟩
def rTupL (K : PySem.W.Frag) : List V → Hp → VK → Prop := fun xs H Q => ∃ p ys, xs = [.ref p] ∧ ((SqL K H p ys ∧ ∀ l, H l = none → Q (.ref l) (upd H l (.tup ys))) ∨ (SqT K H p ys ∧ Q (.ref p) H))
theorem call_tupL {X : Cx} : CallR X (.type "tuple") (rTupL X.K) := call_tuple_of
theorem rc_tupL {xs : List PyData} (q : k (.d (.tuple xs))) : RC Γ (rTupL Γ.K) [.d (.list xs)] k := fun Pr G H vs vw ra Q hq => by
  cases ra with
  | @cons v _ _ _ h t =>
    cases t
    have h' : Dq Γ.K G v (.list xs) := h
    cases h' with
    | @lst a ws _ hs ha =>
      refine ⟨a, ws, rfl, .inl ⟨SqL.of (vw.sm _ _ hs), fun p hp => ?_⟩⟩
      have n := vw.new (o := .tup ws) hp
      exact hq _ _ _ _ q n (.tup (SqT.of upd_same) (dqAll_mono n.g ha))
def rListL (K : PySem.W.Frag) : List V → Hp → VK → Prop := fun xs H Q => ∃ p ys, xs = [.ref p] ∧ (SqL K H p ys ∨ SqT K H p ys) ∧ ∀ l, H l = none → Q (.ref l) (upd H l (.lst ys))
theorem call_listL {X : Cx} : CallR X (.type "list") (rListL X.K) := call_list_of
/-! isinstance with a built-in class -/
def isTy (d : PyData) (n : String) : Bool :=
  match d with
  | .none => false
  | .bool _ => n == "bool" || n == "int"
  | .int _ => n == "int"
  | .str _ => n == "str"
  | .list _ => n == "list"
  | .tuple _ => n == "tuple"
  | .dict _ => n == "dict"
theorem tyx_of {K : PySem.W.Frag} {G H : Hp} {v : V} {d : PyData} {n : String} (s : Same G H) (h : Dq K G v d) (hn : n = "int" ∨ n = "bool" ∨ n = "str" ∨ n = "tuple") : ∃ t, TyX K H v t ∧ PySem.W.kitOne K t (.type n) = some (isTy d n) := by
  cases h with
  | non => exact ⟨_, .base .non, kit_ty (by rcases hn with rfl | rfl | rfl | rfl <;> decide +kernel)⟩
  | bl b =>
    refine ⟨_, .base (.bl b), kit_ty ?_⟩
    rcases hn with rfl | rfl | rfl | rfl
    · exact (by decide +kernel : kitB "bool" "int" = some true)
    · exact (by decide +kernel : kitB "bool" "bool" = some true)
    · exact (by decide +kernel : kitB "bool" "str" = some false)
    · exact (by decide +kernel : kitB "bool" "tuple" = some false)
  | int i => exact ⟨_, .base (.int i), kit_ty (by rcases hn with rfl | rfl | rfl | rfl <;> (show kitB _ _ = some (_ == _); decide +kernel))⟩
  | str z => exact ⟨_, .base (.str z), kit_ty (by rcases hn with rfl | rfl | rfl | rfl <;> (show kitB _ _ = some (_ == _); decide +kernel))⟩
  | lst hs ha => exact ⟨_, .base (.lst (s _ _ hs)), kit_ty (by rcases hn with rfl | rfl | rfl | rfl <;> (show kitB _ _ = some (_ == _); decide +kernel))⟩
  | tup hs ha =>
    have e : kitB "tuple" n = some (isTy (.tuple []) n) := by rcases hn with rfl | rfl | rfl | rfl <;> (show kitB _ _ = some (_ == _); decide +kernel)
    rcases hs with (hs | ⟨o, hs⟩) | ⟨o, its, m, hk, hc, _⟩
    · exact ⟨_, .base (.tup (s _ _ hs)), kit_ty e⟩
    · exact ⟨_, .fTuple (s _ _ hs), kit_ty e⟩
    · exact ⟨_, .kTuple hk hc, kit_ty e⟩
theorem wp_isi {n : String} (hn : n = "int" ∨ n = "bool" ∨ n = "str" ∨ n = "tuple") (h : Wp Γ te ss (fun d => ∃ y, d = .d y ∧ k (.d (.bool (isTy y n)))) x) :
    Wp Γ (tCB (rIsi Γ.K) (tCons te (tCons (tC (.ty n)) tNil))) ss k x := fun Pr G H σ v s Q hq hx =>
  h Pr G H σ v s _ (fun d z G1 H1 ⟨y, ed, hk⟩ g rd => by
    subst ed
    obtain ⟨t, ty, e⟩ := tyx_of g.vw.sm rd hn
    exact ⟨z, .ty n, t, .type n, _, rfl, .ty n, ty, e, hq _ _ G1 H1 hk g (.bl _)⟩) hx
end

/-! ### data rules: slices -/
def cutD (xs : List PyData) (lo hi : Option Int) : List PyData := (xs.drop (HT.sIx xs.length 0 lo)).take (HT.sIx xs.length xs.length hi - HT.sIx xs.length 0 lo)
theorem cut_dq {K : PySem.W.Frag} {G : Hp} {vs : List V} {xs : List PyData} (a : DqAll K G vs xs) (lo hi : Option Int) : DqAll K G (cutV vs lo hi) (cutD xs lo hi) := by
  unfold cutV cutD
  rw [dqAll_length a]
  exact dqAll_take _ (dqAll_drop _ a)
section
variable {Γ : Ctx} {k : Dv → Prop}
theorem rs_L {xs : List PyData} {lo hi : Option Int} (q : k (.d (.list (cutD xs lo hi)))) : RS Γ (rSlL Γ.K) (.d (.list xs)) lo hi k := fun Pr G H v vw ra Q hq => by
  have ra' : Dq Γ.K G v (.list xs) := ra
  cases ra' with
  | @lst a vs _ hs ha =>
    refine ⟨a, vs, rfl, SqL.of (vw.sm _ _ hs), fun p hp => ?_⟩
    have n := vw.new (o := .lst (cutV vs lo hi)) hp
    exact hq _ _ _ _ q n (.lst upd_same (dqAll_mono n.g (cut_dq ha lo hi)))
theorem rs_T {xs : List PyData} {lo hi : Option Int} (hw : ¬ (HT.sIx xs.length 0 lo = 0 ∧ HT.sIx xs.length xs.length hi = xs.length)) (q : k (.d (.tuple (cutD xs lo hi)))) : RS Γ (rSlT Γ.K) (.d (.tuple xs)) lo hi k := fun Pr G H v vw ra Q hq => by
  have ra' : Dq Γ.K G v (.tuple xs) := ra
  cases ra' with
  | @tup a vs _ hs ha =>
    refine ⟨a, vs, rfl, sqt_mono vw.sm hs, by rw [dqAll_length ha]; exact hw, fun p hp => ?_⟩
    have n := vw.new (o := .tup (cutV vs lo hi)) hp
    exact hq _ _ _ _ q n (.tup (SqT.of upd_same) (dqAll_mono n.g (cut_dq ha lo hi)))
theorem rs_S {z : Str} {lo hi : Option Int} (hz : z.length ≤ sizeLine) (q : k (.d (.str (cutS z lo hi)))) : RS Γ rSlS (.d (.str z)) lo hi k := fun Pr G H v vw ra Q hq => by
  cases ra
  exact ⟨z, rfl, hz, hq _ _ G H q (Go.refl vw) (.str _)⟩
end

/-! ### data rules: methods of texts -/
section
variable {Γ : Ctx} {k : Dv → Prop} {ss : Sd} {x : Prop} {to te : TE}
/-- a text's method by data -/
def RT (Γ : Ctx) (r : V → List V → Hp → VK → Prop) (z : Str) (b : Dv) (k : Dv → Prop) : Prop := ∀ Pr G H w, Vw Γ.M Pr G H → DvR Γ.K G w b → ∀ Q : VK,
  (∀ d u G' H', k d → Go Γ.M Pr G H G' H' → DvR Γ.K G' u d → Q u H') → r (.str z) [w] H Q
theorem wp_m1 {r : V → List V → Hp → VK → Prop} (h : Wp Γ to ss (fun d => ∃ z, d = .d (.str z) ∧ Wp Γ te ss (fun b => RT Γ r z b k) x) x) : Wp Γ (tM1 r to te) ss k x := fun Pr G H σ v s Q hq hx =>
  h Pr G H σ v s _ (fun d w G1 H1 ⟨z, ed, h1⟩ g rd => by
    subst ed
    cases rd
    exact ⟨⟨z, rfl⟩, h1 Pr G1 H1 σ g.vw (s.mono g.g) _ (fun b u G2 H2 h2 g2 rb => h2 Pr G2 H2 u g2.vw rb Q fun d' u' G3 H3 hk g3 rd' => hq d' u' G3 H3 hk ((g.trans g2).trans g3) rd') (hx.on g.h)⟩) hx
def rSplit : V → List V → Hp → VK → Prop := fun x xs H Q => ∃ a b, x = .str a ∧ xs = [.str b] ∧ (b.length == 0) = false ∧ a.length + 2 ≤ sizeLine ∧ rNewStrs (Txt.split a b) H Q
theorem mt_splitD {X : Cx} : MtR X "str.split" rSplit := mt_split
theorem rt_split {z b : Str} (hb : (b.length == 0) = false) (hz : z.length + 2 ≤ sizeLine) (q : k (.d (.list ((Txt.split z b).map PyData.str)))) : RT Γ rSplit z (.d (.str b)) k := fun Pr G H w vw rb Q hq => by
  cases rb
  refine ⟨z, b, rfl, rfl, hb, hz, fun p hp => ?_⟩
  have n := vw.new (o := .lst ((Txt.split z b).map V.str)) hp
  exact hq _ _ _ _ q n (.lst upd_same dqAll_of_strs)
def rJoin (K : PySem.W.Frag) : V → List V → Hp → VK → Prop := fun x xs H Q => ∃ a p, ∃ ys : List Str, x = .str a ∧ xs = [.ref p] ∧ (SqL K H p (ys.map V.str) ∨ SqT K H p (ys.map V.str)) ∧
  (ys.map (·.length)).sum + ys.length * a.length ≤ 16777216 ∧ Q (.str (Txt.join a ys)) H
theorem mt_joinD {X : Cx} : MtR X "str.join" (rJoin X.K) := mt_join
theorem rt_join {z : Str} {ys : List Str} (hz : (ys.map (·.length)).sum + ys.length * z.length ≤ 16777216) (q : k (.d (.str (Txt.join z ys)))) : RT Γ (rJoin Γ.K) z (.d (.list (ys.map PyData.str))) k := fun Pr G H w vw rb Q hq => by
  have rb' : Dq Γ.K G w (.list (ys.map PyData.str)) := rb
  cases rb' with
  | @lst a vs _ hs ha =>
    have e := dqAll_strs ha
    subst e
    exact ⟨z, a, ys, rfl, rfl, .inl (SqL.of (vw.sm _ _ hs)), hz, hq _ _ G H q (Go.refl vw) (.str _)⟩
def rEnds : V → List V → Hp → VK → Prop := fun x xs H Q => ∃ a b, x = .str a ∧ xs = [.str b] ∧ Q (.bl (Txt.endswith a b)) H
theorem mt_ends {X : Cx} : MtR X "str.endswith" rEnds := mt_endswith
theorem rt_ends {z b : Str} (q : k (.d (.bool (Txt.endswith z b)))) : RT Γ rEnds z (.d (.str b)) k := fun Pr G H w vw rb Q hq => by
  cases rb
  exact ⟨z, b, rfl, rfl, hq _ _ G H q (Go.refl vw) (.bl _)⟩
end
end K84

/-! part K84C -/
set_option maxHeartbeats 2000000
/-! K84C: what is walked, comprehensions and loops at data level. -/
namespace K84
open PySem PySem.Spec PyProof.Rows L2

theorem wipe_get (σ : L2.St) : ∀ (vs : List Nat) (i : Nat), (wipe σ vs)[i]? = if i ∈ vs then (if i < σ.length then some none else none) else σ[i]?
  | [], i => by simp [wipe]
  | v :: vs, i => by
    unfold wipe
    rw [List.getElem?_set, wipe_length, wipe_get σ vs i]
    by_cases h : v = i
    · subst h
      simp
    · have h' : ¬ i = v := fun z => h z.symm
      simp [h, h']
theorem wipe_set {σ : L2.St} {vs : List Nat} {j : Nat} {o : Option V} (hj : j ∈ vs) : wipe ((wipe σ vs).set j o) vs = wipe σ vs := by
  refine List.ext_getElem? fun i => ?_
  rw [wipe_get, wipe_get]
  rw [List.length_set, wipe_length]
  by_cases h : i ∈ vs
  · rw [if_pos h, if_pos h]
  · rw [if_neg h, if_neg h]
    have hne : j ≠ i := fun z => h (z ▸ hj)
    rw [List.getElem?_set_ne hne, wipe_get, if_neg h]
theorem wipe_wipe {σ : L2.St} {vs : List Nat} : wipe (wipe σ vs) vs = wipe σ vs := by
  refine List.ext_getElem? fun i => ?_
  rw [wipe_get, wipe_get, wipe_length]
  by_cases h : i ∈ vs
  · rw [if_pos h, if_pos h]
  · rw [if_neg h, if_neg h]
/-- a change of slots within vs -/
def Wi (vs : List Nat) (σ σ2 : L2.St) : Prop := wipe σ2 vs = wipe σ vs
theorem Wi.set {σ σ2 : L2.St} {vs : List Nat} {j : Nat} {o : Option V} (h : Wi vs σ σ2) (hj : j ∈ vs) : Wi vs σ (σ2.set j o) := by
  unfold Wi at h ⊢
  rw [← h]
  refine List.ext_getElem? fun i => ?_
  rw [wipe_get, wipe_get, List.length_set]
  by_cases c : i ∈ vs
  · rw [if_pos c, if_pos c]
  · rw [if_neg c, if_neg c]
    have hne : j ≠ i := fun z => c (z ▸ hj)
    rw [List.getElem?_set_ne hne]

section
variable {M : Mode} {Pr : Addr → Prop} {G G' H H' : Hp}
theorem Vw.write {p : Addr} {o : HO} (v : Vw M Pr G H) (hp : Pr p) (hm : ¬ M.own p) (ho : ∀ fs, o ≠ .xd fs) : Vw M Pr G (upd H p o) := by
  obtain ⟨gp, np⟩ := v.pr p hp
  refine ⟨fun b u e => ?_, fun b hb => ?_, v.ow, M.st v.lf (Same.refl _) fun b u hb e => ?_⟩
  · rw [upd_ne (ne_of_none e gp)]
    exact v.sm b u e
  · obtain ⟨h1, h2⟩ := v.pr b hb
    refine ⟨h1, ?_⟩
    by_cases z : b = p
    · subst z
      rw [upd_same]
      exact ⟨o, rfl, ho⟩
    · rw [upd_ne z]
      exact h2
  · have z : b ≠ p := fun z => hm (z ▸ hb)
    rw [upd_ne z]
    exact e
theorem Vw.fresh_ne {p : Addr} (v : Vw M Pr G H) (hp : H p = none) : ¬ M.own p ∧ ¬ Pr p :=
  have n : ¬ Pr p := fun e => (v.pr p e).2.ne hp
  ⟨fun e => n (v.ow p e), n⟩
end

/-! ### sources -/
/-- J yields the data its, over what stands in G1 -/
def Src (K : PySem.W.Frag) (J : It) (G1 : Hp) (its : List Dv) : Prop := ∀ H, Same G1 H → ∀ i, (i < its.length → J.go i H) ∧ (its.length ≤ i → J.stop i H) ∧
  ∀ d v H', its[i]? = some d → J.yld i H v H' → (H' = H ∧ DvR K G1 v d) ∨ ∃ (T : Addr) (o : HO), H T = none ∧ H' = upd H T o ∧ ∀ G, Same G1 G → G T = none → DvR K (upd G T o) v d
def WpI (Γ : Ctx) (wi : TI) (ss : Sd) (k : List Dv → Prop) (x : Prop) : Prop := ∀ Pr G H σ, Vw Γ.M Pr G H → Sl Γ.K G σ ss → ∀ R : It → Hp → Prop,
  (∀ its J G1 H1, k its → Go Γ.M Pr G H G1 H1 → Src Γ.K J G1 its → R J H1) → Wants Γ x H → wi σ H R
section
variable {Γ : Ctx} {ss : Sd} {k : List Dv → Prop} {x : Prop} {te : TE} {ta : TA}
theorem sqL_inj {K : PySem.W.Frag} {H : Hp} {a : Addr} {xs ys : List V} (h : H a = some (.lst xs)) (h' : H a = some (.lst ys)) : xs = ys := by
  rw [h] at h'
  cases h'
  rfl
theorem get_d {xs : List PyData} {i : Nat} {d : Dv} (e : (xs.map Dv.d)[i]? = some d) : ∃ y, xs[i]? = some y ∧ d = .d y := by
  rw [List.getElem?_map] at e
  cases h : xs[i]? with
  | none =>
    rw [h] at e
    cases e
  | some y =>
    rw [h] at e
    exact ⟨y, rfl, (Option.some.inj e).symm⟩
theorem wi_list (h : Wp Γ te ss (fun d => ∃ xs, d = .d (.list xs) ∧ k (xs.map Dv.d)) x) : WpI Γ (iList Γ.K te) ss k x := fun Pr G H σ v s R hr hx =>
  h Pr G H σ v s _ (fun d w G1 H1 ⟨xs, ed, hk⟩ g rd => by
    subst ed
    have rd' : Dq Γ.K G1 w (.list xs) := rd
    cases rd' with
    | @lst a vs _ hs ha =>
      refine ⟨a, rfl, ⟨vs, SqL.of (g.vw.sm _ _ hs)⟩, hr _ _ G1 H1 hk g fun H2 s2 i => ⟨fun hi => ?_, fun hi => ?_, fun d v' H' hd hy => .inl ?_⟩⟩
      · rw [List.length_map, ← dqAll_length ha] at hi
        exact ⟨vs, vs[i], SqL.of (s2 _ _ hs), List.getElem?_eq_getElem hi⟩
      · rw [List.length_map, ← dqAll_length ha] at hi
        exact ⟨vs, SqL.of (s2 _ _ hs), hi⟩
      · obtain ⟨e1, e2⟩ := hy
        obtain ⟨y, hy, ey⟩ := get_d hd
        subst ey
        obtain ⟨z, ez, rz⟩ := dqAll_get ha hy
        have e3 := e2 vs (SqL.of (s2 _ _ hs))
        rw [ez] at e3
        cases e3
        exact ⟨e1, rz⟩) hx
theorem wi_tup (h : Wp Γ te ss (fun d => ∃ xs, d = .d (.tuple xs) ∧ k (xs.map Dv.d)) x) : WpI Γ (iTup Γ.K te) ss k x := fun Pr G H σ v s R hr hx =>
  h Pr G H σ v s _ (fun d w G1 H1 ⟨xs, ed, hk⟩ g rd => by
    subst ed
    have rd' : Dq Γ.K G1 w (.tuple xs) := rd
    cases rd' with
    | @tup a vs _ hs ha =>
      refine ⟨a, rfl, ⟨vs, sqt_mono g.vw.sm hs⟩, hr _ _ G1 H1 hk g fun H2 s2 i => ⟨fun hi => ?_, fun hi => ?_, fun d v' H' hd hy => .inl ?_⟩⟩
      · rw [List.length_map, ← dqAll_length ha] at hi
        exact ⟨vs, vs[i], sqt_mono s2 hs, List.getElem?_eq_getElem hi⟩
      · rw [List.length_map, ← dqAll_length ha] at hi
        exact ⟨vs, sqt_mono s2 hs, hi⟩
      · obtain ⟨e1, e2⟩ := hy
        obtain ⟨y, hy, ey⟩ := get_d hd
        subst ey
        obtain ⟨z, ez, rz⟩ := dqAll_get ha hy
        have e3 := e2 vs (sqt_mono s2 hs)
        rw [ez] at e3
        cases e3
        exact ⟨e1, rz⟩) hx
abbrev signD (c : Nat) : PyData := .str ⟨#[c]⟩
theorem wi_str (h : Wp Γ te ss (fun d => ∃ z, d = .d (.str z) ∧ k ((z.cps.toList.map signD).map Dv.d)) x) : WpI Γ (iStr te) ss k x := fun Pr G H σ v s R hr hx =>
  h Pr G H σ v s _ (fun d w G1 H1 ⟨z, ed, hk⟩ g rd => by
    subst ed
    cases rd
    refine ⟨z, rfl, hr _ _ G1 H1 hk g fun H2 s2 i => ⟨fun hi => ?_, fun hi => ?_, fun d v' H' hd hy => .inl ?_⟩⟩
    · rw [List.length_map, List.length_map] at hi
      show i < z.cps.size
      simpa using hi
    · rw [List.length_map, List.length_map] at hi
      show z.cps.size ≤ i
      simpa using hi
    · obtain ⟨e1, c, e2, e3⟩ := hy
      obtain ⟨y, hy, ey⟩ := get_d hd
      subst ey
      rw [List.getElem?_map] at hy
      have e4 : z.cps.toList[i]? = some c := by rw [Array.getElem?_toList]; exact e2
      rw [e4] at hy
      have e5 : signD c = y := Option.some.inj hy
      subst e5
      subst e3
      exact ⟨e1, .str _⟩) hx
def rangeD (lo : Int) (n : Nat) : List PyData := (List.range n).map fun (i : Nat) => PyData.int (lo + (i : Int))
theorem src_rng {K : PySem.W.Frag} {G1 : Hp} {lo : Int} {n : Nat} : Src K (Itr lo n) G1 ((rangeD lo n).map Dv.d) := fun H2 s2 i => by
  refine ⟨fun hi => ?_, fun hi => ?_, fun d v' H' hd hy => .inl ?_⟩
  · unfold rangeD at hi
    rw [List.length_map, List.length_map, List.length_range] at hi
    exact hi
  · unfold rangeD at hi
    rw [List.length_map, List.length_map, List.length_range] at hi
    exact hi
  · obtain ⟨e1, e2⟩ := hy
    obtain ⟨y, hy, ey⟩ := get_d hd
    subst ey e2
    unfold rangeD at hy
    rw [List.getElem?_map] at hy
    cases h : (List.range n)[i]? with
    | none =>
      rw [h] at hy
      cases hy
    | some j =>
      rw [h] at hy
      obtain ⟨hj, ej⟩ := List.getElem?_eq_some_iff.mp h
      rw [List.getElem_range] at ej
      subst ej
      have e := Option.some.inj hy
      subst e
      exact ⟨e1, .int _⟩
theorem wi_rng1 (h : WpA Γ ta ss (fun as => ∃ j : Int, as = [.d (.int j)] ∧ -(2 ^ 62) ≤ j ∧ j < 2 ^ 62 ∧ k ((rangeD 0 j.toNat).map Dv.d)) x) : WpI Γ (iRng1 ta) ss k x := fun Pr G H σ v s R hr hx =>
  h Pr G H σ v s _ (fun as vs G1 H1 ⟨j, ea, h1, h2, hk⟩ g rs => by
    subst ea
    cases rs with
    | cons r t =>
      cases t
      cases r
      exact ⟨j, rfl, h1, h2, hr _ _ G1 H1 hk g src_rng⟩) hx
theorem wi_rng2 (h : WpA Γ ta ss (fun as => ∃ i j : Int, as = [.d (.int i), .d (.int j)] ∧ (-(2 ^ 62) ≤ i ∧ i < 2 ^ 62 ∧ -(2 ^ 62) ≤ j ∧ j < 2 ^ 62) ∧ k ((rangeD i (j - i).toNat).map Dv.d)) x) : WpI Γ (iRng2 ta) ss k x := fun Pr G H σ v s R hr hx =>
  h Pr G H σ v s _ (fun as vs G1 H1 ⟨i, j, ea, h1, hk⟩ g rs => by
    subst ea
    cases rs with
    | cons r t =>
      cases t with
      | cons r' t =>
        cases t
        cases r
        cases r'
        exact ⟨i, j, rfl, h1, hr _ _ G1 H1 hk g src_rng⟩) hx
abbrev pairD (p : PyData × PyData) : PyData := .tuple [p.1, p.2]
theorem get_zip {xs ys : List PyData} {i : Nat} {d : Dv} (e : (((xs.zip ys).map pairD).map Dv.d)[i]? = some d) : ∃ a b, xs[i]? = some a ∧ ys[i]? = some b ∧ d = .d (.tuple [a, b]) := by
  obtain ⟨y, hy, ed⟩ := get_d e
  rw [List.getElem?_map] at hy
  cases h : (xs.zip ys)[i]? with
  | none =>
    rw [h] at hy
    cases hy
  | some p =>
    rw [h] at hy
    have e2 : pairD p = y := Option.some.inj hy
    obtain ⟨h1, h2⟩ := List.getElem?_zip_eq_some.mp h
    subst e2
    exact ⟨p.1, p.2, h1, h2, ed⟩
theorem pair_dq {K : PySem.W.Frag} {G G1 : Hp} {T : Addr} {u w : V} {a b : PyData} (e : Same G1 G) (h : G T = none) (ru : Dq K G1 u a) (rw' : Dq K G1 w b) : DvR K (upd G T (.tup [u, w])) (.ref T) (.d (.tuple [a, b])) :=
  have e2 : Same G1 (upd G T (.tup [u, w])) := e.trans (Same.know h)
  .tup (SqT.of upd_same) (.cons (dq_mono e2 ru) (.cons (dq_mono e2 rw') .nil))
/-- zip of two tuples -/
theorem wi_zipT (h : WpA Γ ta ss (fun as => ∃ xs ys, as = [.d (.tuple xs), .d (.tuple ys)] ∧ k (((xs.zip ys).map pairD).map Dv.d)) x) : WpI Γ (RZ.iZipA Γ.K ta) ss k x := fun Pr G H σ v s R hr hx =>
  h Pr G H σ v s _ (fun as vs G1 H1 ⟨xs, ys, ea, hk⟩ g rs => by
    subst ea
    cases rs with
    | @cons v1 _ _ _ r t =>
      cases t with
      | @cons v2 _ _ _ r' t =>
        cases t
        have r1 : Dq Γ.K G1 v1 (.tuple xs) := r
        have r2 : Dq Γ.K G1 v2 (.tuple ys) := r'
        cases r1 with
        | @tup a us _ hs ha =>
          cases r2 with
          | @tup b ws _ ht hb =>
            refine ⟨a, b, us, ws, rfl, .inr ⟨sqt_mono g.vw.sm hs, sqt_mono g.vw.sm ht, hr _ _ G1 H1 hk g fun H2 s2 i => ⟨fun hi => ?_, fun hi => ?_, fun d v' H' hd hy => .inr ?_⟩⟩⟩
            · rw [List.length_map, List.length_map, List.length_zip] at hi
              have l1 := dqAll_length ha
              have l2 := dqAll_length hb
              have i1 : i < us.length := by omega
              have i2 : i < ws.length := by omega
              exact ⟨us, ws, us[i], ws[i], sqt_mono s2 hs, sqt_mono s2 ht, List.getElem?_eq_getElem i1, List.getElem?_eq_getElem i2⟩
            · rw [List.length_map, List.length_map, List.length_zip] at hi
              have l1 := dqAll_length ha
              have l2 := dqAll_length hb
              exact ⟨us, ws, sqt_mono s2 hs, sqt_mono s2 ht, by omega⟩
            · obtain ⟨T, u, w, ev, hT, eH, f1, f2⟩ := hy
              obtain ⟨da, db, h1, h2, ed⟩ := get_zip hd
              subst ed ev
              obtain ⟨z1, e1, q1⟩ := dqAll_get ha h1
              obtain ⟨z2, e2, q2⟩ := dqAll_get hb h2
              have g1 := f1 us (sqt_mono s2 hs)
              have g2 := f2 ws (sqt_mono s2 ht)
              rw [e1] at g1
              rw [e2] at g2
              cases g1
              cases g2
              exact ⟨T, _, hT, eH, fun G e n => pair_dq e n q1 q2⟩) hx
end

/-! ### targets -/
/-- g stores d into the slots ss, giving ss'; within vs -/
def Tgt (g : TG) (K : PySem.W.Frag) (vs : List Nat) (ss : Sd) (d : Dv) (ss' : Sd) : Prop := ∀ (G H : Hp) (σ : L2.St) (v : V), Same G H → Sl K G σ ss → DvR K G v d → ∀ Q : L2.St → Hp → Prop, (∀ σ', Sl K G σ' ss' → Wi vs σ σ' → Q σ' H) → g v σ H Q
theorem tgt_name {K : PySem.W.Frag} {vs : List Nat} {ss : Sd} {d : Dv} {j : Nat} (hj : j ∈ vs) : Tgt (gName j) K vs ss d (ss.set j (some d)) := fun G H σ v _ s r Q q => q _ (Sl.set r j s) (Wi.set rfl hj)
theorem gn_run2 {K : PySem.W.Frag} {G H : Hp} {ws : List Nat} : ∀ {t : TGs} {is : List Nat} {xs : List PyData} {vs : List V} {σ0 σ : L2.St} {ss : Sd} {Q : L2.St → Hp → Prop}, GN t is → (∀ i ∈ is, i ∈ ws) → DqAll K G vs xs → is.length = xs.length → Sl K G σ ss → Wi ws σ0 σ →
    (∀ σ', Sl K G σ' (setAll ss is xs) → Wi ws σ0 σ' → Q σ' H) → t vs σ H Q
  | _, _, _, _, _, σ, _, _, .nil, _, .nil, _, s, w, q => ⟨rfl, q σ s w⟩
  | _, _, _, _, _, _, _, _, .cons i h, hw, .cons (v := v) (vs := vs) (d := x) hv a, hl, s, w, q => ⟨v, vs, rfl, gn_run2 h (fun j hj => hw j (List.mem_cons_of_mem _ hj)) a (Nat.succ.inj hl) (Sl.set (d := .d x) hv i s) (Wi.set w (hw i List.mem_cons_self)) q⟩
  | _, _, _, _, _, _, _, _, .nil, _, .cons _ _, hl, _, _, _ => by cases hl
  | _, _, _, _, _, _, _, _, .cons _ _, _, .nil, hl, _, _, _ => by cases hl
theorem tgt_tup {K : PySem.W.Frag} {vs : List Nat} {ss : Sd} {n : Nat} {tg : TGs} {is : List Nat} {xs : List PyData} (hg : GN tg is) (hw : ∀ i ∈ is, i ∈ vs) (hl : xs.length = n) (hi : is.length = n) : Tgt (gTup K n tg) K vs ss (.d (.tuple xs)) (setAll ss is xs) := fun G H σ v e s r Q q => by
  have r' : Dq K G v (.tuple xs) := r
  cases r' with
  | @tup a us _ hs ha => exact ⟨a, us, rfl, sqt_mono e hs, by rw [dqAll_length ha]; exact hl, gn_run2 hg hw ha (by omega) s rfl q⟩

/-! ### comprehensions -/
section
variable {Γ : Ctx} {ss : Sd} {k : Dv → Prop} {x : Prop} {wi : TI} {g : TG} {tt : TT} {te : TE} {vs : List Nat}
theorem paired_snoc {α β : Type} {R : α → β → Prop} {a : α} {b : β} (r : R a b) : ∀ {l : List α} {m : List β}, Paired R l m → Paired R (l ++ [a]) (m ++ [b])
  | _, _, .nil => .cons r .nil
  | _, _, .cons h t => .cons h (paired_snoc r t)
theorem take_snoc {α : Type} {l : List α} {i : Nat} {d : α} (h : l[i]? = some d) : l.take (i + 1) = l.take i ++ [d] := by
  rw [List.take_add_one, h]
  rfl
/-- [te for g in wi if tt]: p says which items are kept, Rl what is made of one -/
theorem wp_lc (p : Dv → Bool) (Rl : Dv → PyData → Prop)
    (h : WpI Γ wi ss (fun its => its.length ≤ 100000 ∧ (∀ d ∈ its, ∃ s', Tgt g Γ.K vs (wipeD ss vs) d s' ∧ WpT Γ tt s' (fun b => b = p d ∧ (b = true → Wp Γ te s' (fun y => ∃ z, y = .d z ∧ Rl d z) x)) x) ∧
      ∀ ys, Paired Rl (its.filter p) ys → k (.d (.list ys))) x) : Wp Γ (tLc wi g tt te vs) ss k x := fun Pr G H σ v s Q hq hx =>
  h Pr G H σ v s _ (fun its J G1 H1 ⟨hlen, hit, hk⟩ g1 src D hD => by
    have nf := g1.vw.fresh_ne hD
    have v1 : Vw Γ.M (fun b => Pr b ∨ b = D) G1 (upd H1 D (.lst [])) := (g1.vw.own (o := .lst []) hD).vw.more (g1.vw.sm.free hD) ⟨_, upd_same, fun _ z => nomatch z⟩
    refine ⟨fun i m H' => m = its.length - i ∧ i ≤ its.length ∧ ∃ (G' : Hp) (acc : List V) (ys : List PyData), Vw Γ.M (fun b => Pr b ∨ b = D) G' H' ∧ Same G1 G' ∧ Kp Γ.M H1 H' ∧ H' D = some (.lst acc) ∧ DqAll Γ.K G' acc ys ∧ Paired Rl ((its.take i).filter p) ys ∧ acc.length ≤ i,
      ⟨its.length, rfl, Nat.zero_le _, G1, [], [], v1, Same.refl _, (g1.vw.own (o := .lst []) hD).h, upd_same, .nil, .nil, Nat.le_refl _⟩, ?_⟩
    rintro i m H' ⟨rfl, hi, G', acc, ys, v', sg, kh, hDH, ha, hp, hal⟩
    obtain ⟨sgo, sst, syl⟩ := src H' (sg.trans v'.sm) i
    by_cases hlt : i < its.length
    · obtain ⟨d, hd⟩ : ∃ d, its[i]? = some d := ⟨_, List.getElem?_eq_getElem hlt⟩
      refine .inr ⟨sgo hlt, fun H2 => i + 1 ≤ its.length ∧ ∃ (G' : Hp) (acc : List V) (ys : List PyData), Vw Γ.M (fun b => Pr b ∨ b = D) G' H2 ∧ Same G1 G' ∧ Kp Γ.M H1 H2 ∧ H2 D = some (.lst acc) ∧ DqAll Γ.K G' acc ys ∧ Paired Rl ((its.take (i + 1)).filter p) ys ∧ acc.length ≤ i + 1,
        fun H2 q => ⟨its.length - (i + 1), by omega, rfl, q⟩, fun w H2 hy => ?_⟩
      -- the item, in a state of ours
      have step : ∃ G2, Go Γ.M (fun b => Pr b ∨ b = D) G' H' G2 H2 ∧ DvR Γ.K G2 w d := by
        rcases syl d w H2 hd hy with ⟨e, r⟩ | ⟨T, o, hT, e, r⟩
        · subst e
          exact ⟨G', Go.refl v', r.mono sg⟩
        · subst e
          exact ⟨_, v'.new hT, r G' sg (v'.sm.free hT)⟩
      obtain ⟨G2, g2, rd⟩ := step
      obtain ⟨sg', htg, hwt⟩ := hit d (List.mem_of_getElem? hd)
      have sl0 : Sl Γ.K G2 (wipe σ vs) (wipeD ss vs) := (s.mono ((g1.g.trans sg).trans g2.g)).wipe vs
      refine htg G2 H2 (wipe σ vs) w g2.vw.sm sl0 rd _ fun σ2 s2 w2 => ⟨by rw [w2, wipe_wipe], ?_⟩
      refine hwt _ G2 H2 σ2 g2.vw s2 _ (fun b G3 H3 ⟨eb, hb⟩ g3 => ?_) (hx.on (g1.h.trans (kh.trans g2.h)))
      have g23 := g2.trans g3
      have hfil : (its.take (i + 1)).filter p = (its.take i).filter p ++ (if p d = true then [d] else []) := by
        rw [take_snoc hd, List.filter_append]
        cases hpd : p d <;> simp [List.filter, hpd]
      cases b with
      | true =>
        refine hb rfl _ G3 H3 σ2 g3.vw (s2.mono g3.g) _ (fun y u G4 H4 ⟨z, ey, hz⟩ g4 ry => ?_) (hx.on (g1.h.trans (kh.trans g23.h)))
        subst ey
        have g24 := g23.trans g4
        have hDm : ¬ Γ.M.own D := nf.1
        have hD4 : H4 D = some (.lst acc) := g24.h D _ hDm hDH
        refine ⟨acc, hD4, by rw [sizeLine_eq]; omega, by omega, G4, acc ++ [u], ys ++ [z], g24.vw.write (.inr rfl) hDm (fun _ z => nomatch z), sg.trans g24.g, fun b o hb e => ?_, upd_same, dqAll_app (dqAll_mono g24.g ha) (.cons ry .nil), ?_, by simp; omega⟩
        · rw [upd_ne (ne_of_none e hD)]
          exact g24.h b o hb (kh b o hb e)
        · rw [hfil, ← eb]
          exact paired_snoc hz hp
      | false =>
        refine ⟨by omega, G3, acc, ys, g23.vw, sg.trans g23.g, kh.trans g23.h, g23.h D _ nf.1 hDH, dqAll_mono g23.g ha, ?_, by omega⟩
        rw [hfil, ← eb]
        simpa using hp
    · have e : i = its.length := by omega
      subst e
      refine .inl ⟨sst (Nat.le_refl _), ?_⟩
      rw [List.take_length] at hp
      have gD : G' D = none := (v'.pr D (.inr rfl)).1
      have vk : Vw Γ.M Pr (upd G' D (.lst acc)) H' := v'.know nf.2 hDH g1.vw.ow
      exact hq (.d (.list ys)) (.ref D) (upd G' D (.lst acc)) H' (hk ys hp) (g1.trans ⟨vk, sg.trans (Same.know gD), kh⟩) (.lst upd_same (dqAll_mono (Same.know gD) ha))) hx
theorem wt_yes {kb : Bool → Prop} (q : kb true) : WpT Γ tYes ss kb x := fun Pr G H σ v s Q hq _ => hq true G H q (Go.refl v)
theorem filter_yes {α : Type} (l : List α) : l.filter (fun _ => true) = l := by
  induction l with
  | nil => rfl
  | cons a l ih => rw [List.filter_cons_of_pos rfl, ih]
/-- [te for g in wi] -/
theorem wp_lc0 (Rl : Dv → PyData → Prop)
    (h : WpI Γ wi ss (fun its => its.length ≤ 100000 ∧ (∀ d ∈ its, ∃ s', Tgt g Γ.K vs (wipeD ss vs) d s' ∧ Wp Γ te s' (fun y => ∃ z, y = .d z ∧ Rl d z) x) ∧
      ∀ ys, Paired Rl its ys → k (.d (.list ys))) x) : Wp Γ (tLc wi g tYes te vs) ss k x :=
  wp_lc (fun _ => true) Rl fun Pr G H σ v s R hr hx => h Pr G H σ v s R (fun its J G1 H1 ⟨hl, hi, hk⟩ g1 src => hr its J G1 H1 ⟨hl, fun d hd => (hi d hd).elim fun s' h => ⟨s', h.1, wt_yes ⟨rfl, fun _ => h.2⟩⟩, fun ys hp => hk ys (by rw [filter_yes] at hp; exact hp)⟩ g1 src) hx
end
end K84

/-! part K84X -/
set_option maxHeartbeats 2000000
/-! K84X: a list comprehension whose element may raise. -/
namespace L2
open PySem PySem.Spec PyProof.Rows

/-- the context of a block that an exception may leave -/
abbrev Cx.blkE (X : Cx) (s : Shared) (H : Hp) (scope : Scope) (cenv : Env) (fp : List Addr) (xe : Value → Shared → Prop) : Cx := { X.blk s H scope cenv fp with xe := xe }
section
variable {X : Cx} {pins : List (Addr × Obj)} {σ : St} {H : Hp} {sI s s' : Shared} {B : Heap} {W : WX} {E : XK}
theorem Inv.toE {scope : Scope} {cenv : Env} {fp : List Addr} {s0 : Shared} {H0 : Hp} {xe xe' : Value → Shared → Prop} (I : Inv { X with xe := xe } pins σ H s) : Inv { X with xe := xe' } pins σ H s :=
  ⟨⟨I.ok.mod, I.ok.kind, I.ok.glob, I.ok.blt, I.ok.above, I.ok.inj, I.ok.has, I.ok.cab, I.ok.hd, I.ok.frames, I.ok.stk, I.ok.exf, I.ok.bs, I.ok.bsz, I.ok.noex, I.ok.exfs, I.ok.funs, I.ok.frf⟩, I.os, I.bare, I.base, I.loc, I.cell, I.free, I.freeC, I.pin, I.hok, I.len⟩
/-- XE.of_call, for any sky -/
theorem XE.of_ub (I : Inv X pins σ H s) {a : Addr} {H' : Hp} {cls : Value} {d : Option Addr} (sky : Sky B X.stack a (Zc cls d) X.env.locals s'.heap) (st : B.StaysIn s'.heap) (hok : HOk X.prog X.w H' B) (ub : UB (frs X.stack) H H' s.heap B s'.heap) (na : H' a = none) (os : s'.os = s.os) (ag : AllBare s'.gens)
    (hW : W cls d σ H') : XE X W (.ref a) s' := by
  obtain ⟨G, g1, g2⟩ := restrict s'.heap fun b => (B.get? b).isSome || decide (b ∈ frs X.stack)
  have gB : ∀ b o, B.get? b = some o → G.get? b = some o := fun b o e => by
    rw [g1 b (by simp [e])]
    exact st b o e
  have gF : ∀ b, b ∈ frs X.stack → G.get? b = s'.heap.get? b := fun b hb => g1 b (by simp [hb])
  have og : ∀ b o, G.get? b = some o → s'.heap.get? b = some o ∧ ((B.get? b).isSome = true ∨ b ∈ frs X.stack) := fun b o e => by
    cases q : ((B.get? b).isSome || decide (b ∈ frs X.stack)) with
    | false => rw [g2 b q] at e; cases e
    | true =>
      rw [g1 b q] at e
      exact ⟨e, by simpa [Bool.or_eq_true] using q⟩
  refine ⟨a, B, { s with heap := G, gens := s'.gens, drawn := s'.drawn, toks := s'.toks }, pins, σ, H', cls, d, rfl, ?_, fun b o e hb => ?_, Heap.UpToSlots.of_keeps fun b o e => (og b o e).1, sky, na, os, ag, hW⟩
  · refine I.call (ch := []) ⟨fun b o e n hb _ => gB b o (ub.keep b o e n hb), fun b o e n hb _ => ?_, fun b o e n _ => ub.free b o e n, fun b o e _ => ?_, ub.tups, ub.frzs, ub.tbls⟩ (hok.kept gB) ag (fun _ z => nomatch z)
    · obtain ⟨sl, q⟩ := ub.slot b o e hb
      exact ⟨sl, by rw [gF b hb]; exact q⟩
    · by_cases hb : b ∈ frs X.stack
      · obtain ⟨sl, q⟩ := ub.slot b o e hb
        exact ⟨_, by rw [gF b hb]; exact q⟩
      · obtain ⟨o', q⟩ := ub.there b o e hb
        exact ⟨o', gB b o' q⟩
  · obtain ⟨e', h⟩ := og b o e
    rcases h with h | h
    · obtain ⟨o', q⟩ := Option.isSome_iff_exists.mp h
      have z := st b o' q
      rw [e'] at z; cases z
      exact q
    · exact absurd h hb

theorem TracedZ.sameBut {h h' base : Heap} {e L : Addr} {Z : Obj → Prop} {fl : Value} {m : Str → Option Value} (x : HandSPX.TracedZ h base e Z fl) (hn : h.Ns L m) (hs : Heap.SameBut L h h') : HandSPX.TracedZ h' base e Z fl := by
  obtain ⟨oe, vs, T, oT, ts, he, hz, hd, h1, hnT, hTe, hT, hdT, h3⟩ := x
  obtain ⟨oL, es, ep, hoL, hdL, _⟩ := hn
  have neE : e ≠ L := fun q => by
    rw [q, hoL] at he
    have z := Option.some.inj he
    rw [← z, hdL] at hd
    cases hd
  have neT : T ≠ L := fun q => by
    rw [q, hoL] at hT
    have z := Option.some.inj hT
    rw [← z, hdL] at hdT
    cases hdT
  exact ⟨oe, vs, T, oT, ts, (hs.2 e neE).trans he, hz, hd, h1, hnT, hTe, (hs.2 T neT).trans hT, hdT, h3⟩
theorem TracedZ.base {h base base' : Heap} {e : Addr} {Z : Obj → Prop} {fl : Value} (x : HandSPX.TracedZ h base e Z fl) (k : ∀ b, base.get? b = none → base'.get? b = none) : HandSPX.TracedZ h base' e Z fl := by
  obtain ⟨oe, vs, T, oT, ts, he, hz, hd, h1, hnT, r⟩ := x
  exact ⟨oe, vs, T, oT, ts, he, hz, hd, h1, k T hnT, r⟩

/-- an exception of a call in the block is in the outer air -/
theorem blk_passes {scope : Scope} {ce : Env} {fp : List Addr} {s3 : Shared} {H3 : Hp} {xe : Value → Shared → Prop} {σ0 : St} (hs : X.stack = X.env :: X.outer) (hf : X.env.frame = some X.env.locals) (hcf : ce.frame = X.env.frame) (tk : Takes X W) (hW : ∀ cls d H', E cls d H' → W cls d σ0 H')
    (I3 : Inv X pins σ0 H3 s3) (cL : ce.locals = s3.heap.objs.size) (f3 : ∀ b ∈ fp, FpOk X pins H3 b) {pins' : List (Addr × Obj)} {σ8 : St} {H8 : Hp} {s8 : Shared} (I8 : Inv (X.blkE s3 H3 scope ce fp xe) pins' σ8 H8 s8) {u : Value} (c : L2.CX X.prog X.w X.stack H8 s8 E u s') :
    notedBy (model X.prog X.w) X.A ce (CompFails (model X.prog X.w) X.A X.xe ce) u s' := by
  obtain ⟨a, B, H', cls, d, rfl, fl, hok, ub, na, os, ag, hE⟩ := c
  have J8 : Inv X pins σ0 H8 s8 := I3.call' (ch := fp) I8.os I8.base I8.hok I8.bare fun b hb => ⟨(f3 b hb).2.2.2.1, (f3 b hb).2.1, (f3 b hb).2.2.2.2.1, (f3 b hb).2.2.2.2.2⟩
  have nC : H8 ce.locals = none := I8.free
  have hfr : X.A.frames = some (X.env :: X.outer) := by rw [I3.ok.frames, hs]
  obtain ⟨m, hn, _⟩ := I8.loc
  have hn : s8.heap.Ns ce.locals m := hn
  have hoC := hn
  obtain ⟨oC, es, ep, hoC, hdC, rC⟩ := hoC
  have Cfr : ce.locals ∉ frs X.stack := fun hm => by
    obtain ⟨_, o, ho, _⟩ := I3.stack.mem hm
    have z := Heap.lt_size ho
    rw [cL] at z
    exact Nat.lt_irrefl _ z
  have hBC : B.get? ce.locals = some oC := ub.keep _ _ hoC nC Cfr
  have hn' : s'.heap.Ns ce.locals m := ⟨oC, es, ep, fl.1 _ _ hBC, hdC, rC⟩
  obtain ⟨B2, b1, b2⟩ := restrict B fun b => decide (b ≠ ce.locals)
  have hb2 : ∀ b o, B2.get? b = some o → b ≠ ce.locals ∧ B.get? b = some o := fun b o e => by
    by_cases q : b = ce.locals
    · rw [b2 b (by simp [q])] at e; cases e
    · rw [b1 b (by simp [q])] at e
      exact ⟨q, e⟩
  have kb2 : ∀ b o, b ≠ ce.locals → B.get? b = some o → B2.get? b = some o := fun b o q e => by rw [b1 b (by simp [q])]; exact e
  have nb2 : ∀ b, B.get? b = none → B2.get? b = none := fun b e => by
    cases q : B2.get? b with
    | none => rfl
    | some o =>
      have z := (hb2 b o q).2
      rw [e] at z; cases z
  have hC' : H' ce.locals = none := ub.free _ _ hoC nC
  have fl2 : HandSPX.FlyingZ B2 (X.env :: X.outer) a (Zc cls d) s'.heap := by
    rw [← hs]
    obtain ⟨q1, q2, q3, q4⟩ := fl
    exact ⟨fun b o e => q1 b o (hb2 b o e).2, nb2 a q2, funFrames_none q3 fun L hL => nb2 L (q3.mem hL).1, TracedZ.base q4 nb2⟩
  have hok2 : HOk X.prog X.w H' B2 := fun b o e => (hok b o e).stay (fun c u hc q => kb2 c u (fun z => by
    subst z
    rcases hc with hc | hc
    · rw [← hc, hC'] at e; cases e
    · rw [hC'] at hc; cases hc) q) (fun _ q => q) fun _ _ q => q
  -- the block's own dict let go
  obtain ⟨G8, e1, e2⟩ := restrict s8.heap fun b => decide (b ≠ ce.locals)
  have hG8 : ∀ b o, G8.get? b = some o → b ≠ ce.locals ∧ s8.heap.get? b = some o := fun b o e => by
    by_cases q : b = ce.locals
    · rw [e2 b (by simp [q])] at e; cases e
    · rw [e1 b (by simp [q])] at e
      exact ⟨q, e⟩
  have K8 : Inv X pins σ0 H8 { s8 with heap := G8, toks := s8.toks } := by
    obtain ⟨g0, g1, g3, g4, g5, g6⟩ := I3.fpOk (b := ce.locals) (H' := H8) (by rw [cL]; exact Nat.le_refl _) nC
    exact J8.turned (t' := s8.toks) (fun b o hb e => by rw [e1 b (by simp [hb])]; exact e) g0 g1 g4 g5 g6
  have fin : ∀ h4 : Heap, HandSPX.HeldZ B2 (X.env :: X.outer) a (Zc cls d) X.env.locals h4 → (∀ b o, s'.heap.get? b = some o → b ≠ ce.locals → (∀ vs, o.data ≠ .fields vs) → ∃ sl, h4.get? b = some { o with slots := sl }) → X.xe (.ref a) { s' with heap := h4 } := fun h4 hh up => by
    refine tk _ _ (XE.of_ub (B := B2) (H' := H') K8 (.inr (.inr (by rw [hs]; exact hh))) hh.1 hok2 ⟨fun b o e n hb => ?_, fun b o e hb => ?_, fun b o e n => ?_, fun b o e hb => ?_, ub.tups, ub.frzs, ub.tbls⟩ na os ag (hW _ _ _ hE))
    · obtain ⟨q, e⟩ := hG8 b o e
      exact kb2 b o q (ub.keep b o e n hb)
    · obtain ⟨q, e⟩ := hG8 b o e
      obtain ⟨sl, z⟩ := ub.slot b o e hb
      obtain ⟨_, o', ho', hnf⟩ := J8.stack.mem hb
      rw [e] at ho'
      cases ho'
      obtain ⟨sl2, z2⟩ := up b _ z q hnf
      exact ⟨sl2, z2⟩
    · obtain ⟨q, e⟩ := hG8 b o e
      exact ub.free b o e n
    · obtain ⟨q, e⟩ := hG8 b o e
      obtain ⟨o', z⟩ := ub.there b o e hb
      exact ⟨o', kb2 b o' q z⟩
  show wpAny _ _ (noteFrame (.ref a) ce) _ _ s'
  have hnf : noteFrame (.ref a) ce = noteFrame (.ref a) X.env := by
    unfold noteFrame PySem.frameOf
    rw [hcf]
  rw [hnf]
  refine HandSPX.looks_onZ Zc.steady hfr hf fl2 fun h1 hh1 up1 => ?_
  have hn1 : h1.Ns ce.locals m := by
    obtain ⟨oL, es, ep, hoL, hdL, r⟩ := hn'
    obtain ⟨sl, e⟩ := up1 _ _ hoL fun vs q => by rw [hdL] at q; cases q
    exact ⟨_, es, ep, e, hdL, r⟩
  refine ⟨m, hn1, fun h2 m2 hn2 sb => ?_⟩
  obtain ⟨k1, k2, k3, k4⟩ := hh1
  have nC2 : B2.get? ce.locals = none := b2 _ (by simp)
  have k1' : B2.StaysIn h2 := fun b o e => (sb.2 b (hb2 b o e).1).trans (k1 b o e)
  have k3' := Heap.FunFrames.sameBut sb hn2 k3
  have k4' := TracedZ.sameBut k4 hn1 sb
  have hh2 : HandSPX.HeldZ B2 (X.env :: X.outer) a (Zc cls d) X.env.locals h2 := ⟨k1', k2, k3', k4'⟩
  obtain ⟨oe, vs, T, oT, ts, he, hz, hd, h1', r⟩ := k4'
  unfold PySem.passOn
  refine wpAny_bind (wpAny_field he hd h1' ?_)
  rw [if_neg (show ¬ ((Value.ref T == Value.none) = true) from by simp)]
  rw [hcf, hf]
  refine wpAny_bind (HandSPX.setFlight_onZ (l := X.env :: X.outer) hh2 fun h3 hh3 up3 => wpAny_throw (fin h3 hh3 fun b o e q hnf => ?_))
  obtain ⟨sl, z⟩ := up1 b o e hnf
  have z2 : h2.get? b = some { o with slots := sl } := (sb.2 b q).trans z
  exact up3 b { o with slots := sl } z2 hnf

/-- what a reading of the element may let out -/
def PassB (X : Cx) (E : XK) (scope : Scope) (s : Shared) (H : Hp) (ce : Env) (fp : List Addr) (xe : Value → Shared → Prop) : Prop := Passes (L2.CX X.prog X.w) (X.blkE s H scope ce fp xe) E
/-- a comprehension whose element may raise; WO: what the def wishes of an exception -/
theorem lc_coreE {elt tg iter : Expr} {ifs : List Expr} {scope : Scope} {own : List (Str × Nat)} {pos pos' : Pos} {wi : TI} {g : TG} {tt : TT} {te : TE} {use : Option (Value → Sem Unit)} {Qf : Value → Shared → Prop} {Q : VK}
    (hs : X.stack = X.env :: X.outer) (hf : X.env.frame = some X.env.locals) (tk : Takes X W) (hW : ∀ cls d σ H', E cls d H' → W cls d σ H')
    (hc : X.calm = true) (hN : X.N.Nodup) (I : Inv X pins σ H s) (hi : PI X tg iter wi) (ok : BlkOk X.N X.env.scope scope own)
    (hg : ∀ (s : Shared) (H : Hp) (C : Addr) (cl : List (Str × Addr)) (fp : List Addr) (xe : Value → Shared → Prop), PG (X.blkE s H scope (compEnvC scope cl C X.env) fp xe) tg g) (ht : ∀ (s : Shared) (H : Hp) (C : Addr) (cl : List (Str × Addr)) (fp : List Addr) (xe : Value → Shared → Prop), PTs (X.blkE s H scope (compEnvC scope cl C X.env) fp xe) ifs tt)
    (he : ∀ (s : Shared) (H : Hp) (C : Addr) (cl : List (Str × Addr)) (fp : List Addr) (xe : Value → Shared → Prop), PassB X E scope s H (compEnvC scope cl C X.env) fp xe → PE (X.blkE s H scope (compEnvC scope cl C X.env) fp xe) elt te) (hsi : ∀ x, foldedSetIterable iter X.env x = pure x)
    (h : tLc wi g tt te (own.map (·.2)) σ H Q)
    (hRR : ∀ D ce s' m H', Inv X pins σ H' s' → Q (.ref D) H' → s'.heap.Ns ce.locals m → FpOk X pins H' ce.locals → compEnds (model X.prog X.w) X.A X.xe use Qf (.ref D) ce (.ok .next) s') :
    wpAny (model X.prog X.w) X.A (comprehension (.ListComp elt [⟨tg, iter, ifs, 0⟩] scope pos) scope X.env pos' (newList []) false (eval iter X.env) use) Qf X.xe s := by
  have hfree : ∀ y ∈ scope.names, y.2 = .free → ∃ c, X.env.cells.lookup y.1 = some c := fun y hy e => by
    rcases ok.free y hy e with k | k
    · exact I.ok.has _ (.inl k)
    · exact I.ok.has _ (.inr k)
  refine comprehension_at (use := use) rfl hsi (closure_ok hfree) ok.kind (fun y hy e => by rw [ok.uniq y hy, e])
    (thn (hi.run pins s σ H _ I h) fun xv s1 hx => thn hx fun itv s2 h2 => ?_)
  obtain ⟨it, fp, tn, J, H2, e, I2, T, st2, f2, q⟩ := h2
  subst e
  refine wpAny_newObj_type (newEnv_comp ?_) (by show 0 ≤ sizeLine; decide)
  generalize hD : s2.heap.objs.size = D
  have hDn : H2 D = none := I2.hok.fresh (Nat.le_of_eq hD)
  obtain ⟨W', ⟨m0, w0⟩, turn⟩ := q D hDn
  -- the new list
  generalize hs3 : ({ s2 with heap := s2.heap.push { cls := .type "list", data := .seq ([] : List Value).toArray } } : Shared) = s3
  have I3 : Inv X pins σ (upd H2 D (.lst [])) s3 := by
    rw [← hs3]
    refine I2.laid (t' := s2.toks) (fun b o e => Heap.get?_push_of_some _ e) (Nat.le_of_eq hD) ⟨Nat.zero_le _, [], 0, .nil, ?_⟩
    rw [← hD]
    exact Heap.get?_push_size _ rfl
  have h3 : s3.heap = s2.heap.push { cls := .type "list", data := .seq ([] : List Value).toArray } := by rw [← hs3]
  have sz : ∀ b ∈ fp, b < s2.heap.objs.size := fun b hb => by
    obtain ⟨o, e, _⟩ := T.obj _ _ st2 b hb
    exact Heap.lt_size e
  have f3 : ∀ b ∈ fp, FpOk X pins (upd H2 D (.lst [])) b ∧ b < s3.heap.objs.size := fun b hb => by
    have hlt := sz b hb
    refine ⟨⟨?_, (f2 b hb).2⟩, by rw [h3, Heap.size_push]; exact Nat.lt_succ_of_lt hlt⟩
    rw [upd_ne (by rw [← hD]; exact Nat.ne_of_lt hlt)]
    exact (f2 b hb).1
  have st3 : tn 0 s3.heap := T.keep _ _ _ st2 fun b _ o e => by rw [h3]; exact Heap.get?_push_of_some _ e
  have I4 := block_start I3 ok hN f3
  have pg := hg s3 (upd H2 D (.lst [])) s3.heap.objs.size (cellsFrom (s3.heap.objs.size + 1) scope.names (cloFrom X.env.cells scope.names [])) fp
  have pt := ht s3 (upd H2 D (.lst [])) s3.heap.objs.size (cellsFrom (s3.heap.objs.size + 1) scope.names (cloFrom X.env.cells scope.names [])) fp
  have pe := he s3 (upd H2 D (.lst [])) s3.heap.objs.size (cellsFrom (s3.heap.objs.size + 1) scope.names (cloFrom X.env.cells scope.names [])) fp
  show codeAny _ _ (.compStart (.ListComp elt [⟨tg, iter, ifs, 0⟩] scope pos) 0 (.ref it) (.ref D) (compEnvC scope (cellsFrom (s3.heap.objs.size + 1) scope.names (cloFrom X.env.cells scope.names [])) s3.heap.objs.size X.env)) (compEnds (model X.prog X.w) X.A X.xe use Qf (.ref D) (compEnvC scope (cellsFrom (s3.heap.objs.size + 1) scope.names (cloFrom X.env.cells scope.names [])) s3.heap.objs.size X.env)) { s3 with heap := pushCells (s3.heap.push { cls := .type "dict", data := .dict #[] }) scope.names }
  have nfp : ∀ b ∈ fp, (upd H2 D (.lst [])) b = none := fun b hb => (f3 b hb).1.1
  generalize hce : compEnvC scope (cellsFrom (s3.heap.objs.size + 1) scope.names (cloFrom X.env.cells scope.names [])) s3.heap.objs.size X.env = ce at I4 pg pt pe ⊢
  have cL : ce.locals = s3.heap.objs.size := by subst hce; rfl
  have cF : ce.frame = X.env.frame := by subst hce; rfl
  generalize hH3 : upd H2 D (.lst []) = H3 at I3 I4 pg pt pe w0 nfp f3
  generalize hs4 : ({ s3 with heap := pushCells (s3.heap.push { cls := .type "dict", data := .dict #[] }) scope.names } : Shared) = s4 at I4 ⊢
  have st4 : tn 0 s4.heap := T.keep _ _ _ st3 fun b _ o e => by rw [← hs4]; exact pushCells_keeps _ _ _ _ (Heap.get?_push_of_some _ e)
  generalize hXE : (fun u s' => notedBy (model X.prog X.w) X.A ce (CompFails (model X.prog X.w) X.A X.xe ce) u s') = xeB
  have I4 : Inv (X.blkE s3 H3 scope ce fp xeB) [] (wipe σ (own.map (·.2))) H3 s4 := I4.toE (scope := scope) (cenv := ce) (fp := fp) (s0 := s3) (H0 := H3)
  have pass : PassB X E scope s3 H3 ce fp xeB := fun pins' σ8 H8 s8 u s' I8 c => by
    rw [← hXE]
    exact blk_passes (σ0 := σ) hs hf cF tk (fun cls d H' z => hW cls d σ H' z) I3 cL (fun b hb => (f3 b hb).1) I8 c
  have pg := pg xeB
  have pt := pt xeB
  have pe := pe xeB pass
  have stat : ∀ {σ' : St} {H' : Hp} {s' : Shared}, Inv (X.blkE s3 H3 scope ce fp xeB) [] σ' H' s' → (∀ b ∈ fp, H' b = none) → ∀ b ∈ fp, FpOk (X.blkE s3 H3 scope ce fp xeB) [] H' b := fun {σ' H' s'} I' hn b hb =>
    ⟨hn b hb, (I'.ok.exf b hb).1, I'.ok.exfs b hb, .inl hb, fun x c e => (I'.ok.exf b hb).2 x c e, fun p hp => absurd (show p ∈ ([] : List (Addr × Obj)) ++ [] from hp) (by simp)⟩
  have loop : codeAny (model X.prog X.w) X.A (.compLoop (.ListComp elt [⟨tg, iter, ifs, 0⟩] scope pos) 0 (.ref it) (.ref D) ce) (compEnds (model X.prog X.w) X.A X.xe use Qf (.ref D) ce) s4 := by
    have hErr : (notedBy (model X.prog X.w) X.A ce fun e s' => compEnds (model X.prog X.w) X.A X.xe use Qf (.ref D) ce (.error e) s') = xeB := by
      rw [← hXE]
      cases use <;> rfl
    refine compLoop_any (fun n s' => ∃ i H', Inv (X.blkE s3 H3 scope ce fp xeB) [] (wipe σ (own.map (·.2))) H' s' ∧ tn i s'.heap ∧ (∀ b ∈ fp, H' b = none) ∧ W' i n H') ?_ m0 ⟨0, H3, I4, st4, nfp, w0⟩
    rw [hErr]
    rintro n s5 ⟨i, H5, I5, st5, n5, w5⟩
    rcases turn i n H5 w5 with ⟨stop, qq⟩ | ⟨go, Nx, hNx, step⟩
    · have td := T.done (X.blkE s3 H3 scope ce fp xeB) rfl rfl rfl hc i [] s5 _ H5 (fun _ _ => False) I5 (stat I5 n5) st5 stop
      refine thnF td fun r s6 ⟨hr, I6⟩ => ?_
      subst hr
      -- back in the def's context
      have I7 : Inv X pins σ H5 s6 := I3.call' (ch := fp) I6.os I6.base I6.hok I6.bare fun b hb => ⟨(f3 b hb).1.2.2.2.1, (f3 b hb).1.2.1, (f3 b hb).1.2.2.2.2.1, (f3 b hb).1.2.2.2.2.2⟩
      have nC : H5 ce.locals = none := I6.free
      obtain ⟨m, hn, _⟩ := I6.loc
      have hn : s6.heap.Ns ce.locals m := hn
      exact hRR D ce s6 m H5 I7 qq hn (I3.fpOk (by rw [cL]; exact Nat.le_refl _) nC)
    · have ti := T.item (X.blkE s3 H3 scope ce fp xeB) rfl rfl rfl hc i [] s5 _ H5 (fun _ _ => False) I5 (stat I5 n5) st5 go
      refine thnF ti fun r s6 ⟨u, hr, h6⟩ => ?_
      subst hr
      refine thnF h6 fun _ s7 ⟨x, H7, I7, r7, y7, st7, n7⟩ => ?_
      have I7' := I7.pinned (stat I7 n7) (T.obj _ _ st7)
      refine thn (pg.run _ s7 _ H7 x u _ I7' r7 (step x H7 y7)) fun _ s8 ⟨σ8, H8, I8, hw8, q8⟩ => ?_
      refine thn (pt.run _ s8 σ8 H8 _ I8 q8) fun b s9 ⟨H9, I9, q9⟩ => ?_
      -- the turn's end
      have fin : ∀ {s' : Shared} {H' : Hp}, Inv (X.blkE s3 H3 scope ce fp xeB) ([] ++ pinsAt fp s7.heap) σ8 H' s' → Nx H' → ∃ m, m < n ∧ ∃ i H', Inv (X.blkE s3 H3 scope ce fp xeB) [] (wipe σ (own.map (·.2))) H' s' ∧ tn i s'.heap ∧ (∀ b ∈ fp, H' b = none) ∧ W' i m H' := fun {s' H'} I' nx => by
        obtain ⟨m', hm, w'⟩ := hNx H' nx
        have pin' : ∀ b ∈ fp, ∀ o, s7.heap.get? b = some o → s'.heap.get? b = some o ∧ H' b = none := fun b hb o e =>
          let z := I'.pin (b, o) (List.mem_append_right _ (List.mem_append_right _ (mem_pinsAt hb e)))
          ⟨z.1, z.2.1⟩
        have hl : (wipe σ (own.map (·.2))).length = σ8.length := by rw [← hw8, wipe_length]
        refine ⟨m', hm, i + 1, H', (I'.unpinned (pins := [])).weak hl (fun j v e => ?_), T.keep _ _ _ st7 fun b hb o e => (pin' b hb o e).1, fun b hb => ?_, w'⟩
        · rw [← hw8] at e
          exact (wipe_some e).1
        · obtain ⟨o, e, _⟩ := T.obj _ _ st7 b hb
          exact (pin' b hb o e).2
      cases b with
      | false =>
        simp only [Bool.false_eq_true, if_false] at q9 ⊢
        exact fin I9 q9
      | true =>
        simp only [if_true] at q9 ⊢
        refine thn (pe.run _ s9 σ8 H9 _ I9 q9) fun z s10 ⟨yv, H10, I10, r10, acc, hD10, hz10, nx⟩ => ?_
        exact app_ok (X := X.blkE s3 H3 scope ce fp xeB) I10 hD10 hz10 r10 fun s11 I11 => fin I11 nx
  exact codeAny_compStart_list loop (T.self X.A 0 _ _ _ st4 loop)
/-- as a value -/
theorem pe_lcE {elt tg iter : Expr} {ifs : List Expr} {scope : Scope} {own : List (Str × Nat)} {pos : Pos} {wi : TI} {g : TG} {tt : TT} {te : TE}
    (hs : X.stack = X.env :: X.outer) (hf : X.env.frame = some X.env.locals) (tk : Takes X W) (hW : ∀ cls d σ H', E cls d H' → W cls d σ H') (hc : X.calm = true) (hN : X.N.Nodup) (hi : PI X tg iter wi) (ok : BlkOk X.N X.env.scope scope own)
    (hg : ∀ (s : Shared) (H : Hp) (C : Addr) (cl : List (Str × Addr)) (fp : List Addr) (xe : Value → Shared → Prop), PG (X.blkE s H scope (compEnvC scope cl C X.env) fp xe) tg g) (ht : ∀ (s : Shared) (H : Hp) (C : Addr) (cl : List (Str × Addr)) (fp : List Addr) (xe : Value → Shared → Prop), PTs (X.blkE s H scope (compEnvC scope cl C X.env) fp xe) ifs tt)
    (he : ∀ (s : Shared) (H : Hp) (C : Addr) (cl : List (Str × Addr)) (fp : List Addr) (xe : Value → Shared → Prop), PassB X E scope s H (compEnvC scope cl C X.env) fp xe → PE (X.blkE s H scope (compEnvC scope cl C X.env) fp xe) elt te) (hsi : ∀ x, foldedSetIterable iter X.env x = pure x := by intro _; rfl) :
    PE X (.ListComp elt [⟨tg, iter, ifs, 0⟩] scope pos) (tLc wi g tt te (own.map (·.2))) := by
  refine ⟨fun pins s σ H Q I h => ?_⟩
  rw [eval_ListComp]
  refine lc_coreE hs hf tk hW hc hN I hi ok hg ht he hsi h fun D ce s' m H' I' q hn f => ⟨m, hn, fun h'' sb => ?_⟩
  obtain ⟨f0, f1, f2, f3, f4, f5⟩ := f
  exact ⟨.ref D, H', I'.turned (t' := s'.toks) (fun b o hb e => (sb.2 b hb).trans e) f0 f1 f3 f4 f5, rfl, q⟩
end
end L2

/-! part K84E -/
set_option maxHeartbeats 2000000
/-! K84E: raise X() of an own class, try .. except X as e that keeps the error, isinstance of a kept error. -/
namespace L2
open PySem PySem.Spec PyProof.Rows
theorem run_mko {X : Cx} {CX : CXT} {C fI : Addr} {k : Nat} {fd : FuncData} {ps : List Str} {sp : Sp} {ds us : List Value} {vs dvs : List V} {pins : List (Addr × Obj)} {s : Shared} {σ : St} {H : Hp} {Q : XK} (T : OexC X.K C) (iC : PySem.W.findIn X.K (.ref C) "__init__" = some (some (.ref fI))) (tI : PySem.W.typeIn X.K (.ref fI) = some (.type "function"))
    (F1 : FnOk X.prog X.w X.K X.mg X.base CX k fI fd ps sp) (hr : Room (k + 1) X.A) (hb : Binds X.K fd ps ds) (hd : Vals dvs ds) (hx : Passes CX X (fun _ _ _ => False)) (I1 : Inv X pins σ H s) (r1 : Vals vs us) (hz : us.length ≤ 1000)
    (q1 : ∀ a, H a = none → sp (.ref a :: (vs ++ dvs)) (upd H a (exo a C none)) (fun v H2 => v = .non ∧ ∃ (d : Addr) (fs : List (Str × V)), H2 a = some (exo a C (some d)) ∧ H2 d = some (exd d fs) ∧ H d = none ∧ Q (.ref C) (some d) (upd (del H2 a) d (.xd fs))) (fun _ _ _ => False)) :
    wpAny (model X.prog X.w) X.A (call (.ref C) us) (MkP X pins σ Q) X.xe s := by
  obtain ⟨nm, q, N, bs, bm, sn, sub, ab, col, dd, k0, k1, k2, k3, k5, hC, hbm⟩ := T.cls
  obtain ⟨hp, g, dr, tk, os⟩ := s
  have hsz : hp.objs.size ≤ hp.objs.size + 1 := Nat.le_succ _
  have hn : H (hp.objs.size + 1) = none := I1.hok.fresh hsz
  have hq := q1 (hp.objs.size + 1) hn
  have kk : ∀ b o, hp.get? b = some o → ((hp.push (PySem.W.kdv_tup us)).push (PySem.HandSPX.excO C hp.objs.size)).get? b = some o := fun b o e => Heap.get?_push_of_some _ (Heap.get?_push_of_some _ e)
  have hget : ((hp.push (PySem.W.kdv_tup us)).push (PySem.HandSPX.excO C hp.objs.size)).get? (hp.objs.size + 1) = some (PySem.HandSPX.excO C hp.objs.size) := by heap_get
  have I2 : Inv X pins σ (upd H (hp.objs.size + 1) (exo (hp.objs.size + 1) C none)) ⟨(hp.push (PySem.W.kdv_tup us)).push (PySem.HandSPX.excO C hp.objs.size), g, dr, tk, os⟩ :=
    I1.laid (t' := tk) (a := hp.objs.size + 1) (o := exo (hp.objs.size + 1) C none) (h' := (hp.push (PySem.W.kdv_tup us)).push (PySem.HandSPX.excO C hp.objs.size)) kk hsz (exo_ok hget)
  have r2 : Vals (V.ref (hp.objs.size + 1) :: (vs ++ dvs)) (Value.ref (hp.objs.size + 1) :: (us ++ ds)) := .cons rfl (r1.append hd)
  have hl : (Value.ref (hp.objs.size + 1) :: us ++ ds).length = ps.length := by
    have e := r2.length
    rw [F1.len _ _ _ _ hq] at e
    exact e.symm
  have hus : us.length ≤ sizeLine := by
    rw [sizeLine_eq]
    omega
  refine wpAny_call (PySem.HandSPX.call_own F.excBase_ValueError (fun Y => PySem.HandSPX.refsVE_contains Y bm hbm) (I1.kIn _ _ hC) (PySem.W.looks_findIn I1.kIn iC) (fun self => PySem.W.bind_fn I1.kIn self tI) hus
    (codeAny_mono (F1.run _ X.stack _ _ ⟨Value.ref (hp.objs.size + 1) :: us, []⟩ (Value.ref (hp.objs.size + 1) :: (us ++ ds)) _ _ (fun _ _ _ => False) (hr.make C us []) (I2.env0.make C us []) (hb _ (Value.ref (hp.objs.size + 1) :: us) I2.kIn hl) r2 hq) fun r s' hq' => ?_))
  cases r with
  | error er => exact hx pins σ _ _ er s' I2 hq'
  | ok fl =>
    cases fl with
    | ret u =>
      obtain ⟨v, H2, os2, bare2, un2, hok2, rv, ev, d, fs, ea, ed, hd1, q2⟩ := hq'
      subst ev
      obtain ⟨h2, g2, d2, t2, os'⟩ := s'
      exact ⟨rv, mk_end (raises_own T.exC T.tyC) I1 hsz kk un2 hok2 os2 bare2 ea ed hd1 q2⟩
    | next => exact False.elim hq'
    | brk => exact False.elim hq'
    | cont => exact False.elim hq'
/-- C() -/
theorem pmk_oex0 {X : Cx} {CX : CXT} {x : Str} {C fI : Addr} {k : Nat} {fd : FuncData} {ps : List Str} {sp : Sp} {ds : List Value} {dvs : List V} {p pos : Pos} (T : OexC X.K C) (iC : PySem.W.findIn X.K (.ref C) "__init__" = some (some (.ref fI))) (tI : PySem.W.typeIn X.K (.ref fI) = some (.type "function"))
    (F1 : FnOk X.prog X.w X.K X.mg X.base CX k fI fd ps sp) (hr : Room (k + 1) X.A) (hb : Binds X.K fd ps ds) (hd : Vals dvs ds) (hx : Passes CX X (fun _ _ _ => False)) (hg : Gl X x) (hm : X.mg x = some (.ref C))
    (hdb : (x == ("__debug__" : Str)) = false := by decide) :
    PMk X (.Call (.Name x p) [] [] pos) (tMkO C sp dvs tNil) := by
  intro pins s σ H Q I h
  refine wpAny_Call_Name_kw (ld_glob I hg hm ?_ hdb)
  refine PySem.W.callWith_K0 I.kIn T.kC ?_
  obtain ⟨hz, q1⟩ := h
  exact run_mko T iC tI F1 hr hb hd hx I .nil (Nat.zero_le _) q1

/-! ### try: body, except x as n: suite; the error stays known behind it -/
section
variable {X : Cx} {pins : List (Addr × Obj)} {σ : St} {H : Hp} {s : Shared}
theorem exk_ok {P : Program} {w : World} {h : Heap} {a C dd : Addr} {oe : Obj} (he : h.get? a = some oe) (h1 : oe.cls = .ref C) (h2 : oe.dict = some dd) (h3 : ∃ vs, oe.data = .fields vs) : ObjOk P w H h a (K84.exk a C dd) :=
  ⟨⟨oe, he, h1, h2, h3⟩, ⟨_, he⟩, fun _ _ ⟨o, q, r⟩ k => ⟨o, k _ q, r⟩⟩
theorem exk_at {P : Program} {w : World} {h : Heap} {a C dd : Addr} (hok : HOk P w H h) (he : H a = some (K84.exk a C dd)) : ∃ oe : Obj, h.get? a = some oe ∧ oe.cls = .ref C ∧ oe.dict = some dd ∧ ∃ vs, oe.data = .fields vs := by
  have x : ObjOk P w H h a (.ext fun h => ∃ oe : Obj, h.get? a = some oe ∧ oe.cls = .ref C ∧ oe.dict = some dd ∧ ∃ vs, oe.data = .fields vs) := hok a _ he
  exact x.1
theorem Inv.track {a C dd : Addr} {oe : Obj} (I : Inv X pins σ H s) (na : H a = none) (h0 : X.s_0.heap.get? a = none) (he : s.heap.get? a = some oe) (h1 : oe.cls = .ref C) (h2 : oe.dict = some dd) (h3 : ∃ vs, oe.data = .fields vs) (nL : a ≠ X.env.locals) (hp : ∀ p ∈ X.pn ++ pins, p.1 ≠ a) : Inv X pins σ (upd H a (K84.exk a C dd)) s := by
  have ne : ∀ {b : Addr} {o : HO}, H b = some o → b ≠ a := fun {b o} e => ne_of_none e na
  refine ⟨I.ok, I.os, I.bare, ⟨I.base.keep, I.base.slot, fun b o e n hx => ?_, I.base.there, fun b xs e => ?_, fun b o u e => ?_, fun b ps e => ?_⟩, I.loc, I.cell, ?_, fun x c e => ?_, fun p hp' => ?_, fun b o e => ?_, I.len⟩
  · have z : b ≠ a := fun z => by rw [z, h0] at e; cases e
    rw [upd_ne z]
    exact I.base.free b o e n hx
  · have q := I.base.tups b xs e
    rw [upd_ne (ne q)]
    exact q
  · have q := I.base.frzs b o u e
    rw [upd_ne (ne q)]
    exact q
  · obtain ⟨more, q⟩ := I.base.tbls b ps e
    exact ⟨more, by rw [upd_ne (ne q)]; exact q⟩
  · rw [upd_ne (Ne.symm nL)]
    exact I.free
  · have z : c ≠ a := fun z => by
      obtain ⟨v, o, ho, hd⟩ := I.cell x c e
      rw [z, he] at ho
      cases ho
      obtain ⟨vs, hv⟩ := h3
      rw [hv] at hd
      cases hd
    rw [upd_ne z]
    exact I.freeC x c e
  · obtain ⟨q1, q2, q3⟩ := I.pin p hp'
    exact ⟨q1, by rw [upd_ne (hp p hp')]; exact q2, q3⟩
  · by_cases z : b = a
    · subst z
      rw [upd_same] at e
      cases e
      exact exk_ok he h1 h2 h3
    · rw [upd_ne z] at e
      exact (I.hok b o e).stay (fun _ _ _ q => q) (fun c hc => by rw [upd_ne (ne hc)]; exact hc) fun c xs hc => by rw [upd_ne (ne hc)]; exact hc
end
/-- the clause 'except x as n'; behind the suite the error stays known; m: as many slots as there are -/
def wAsK (K : PySem.W.Frag) (c : Value) (i m : Nat) (ts : Addr → Value → Option Addr → TS) (Wout : WX) (D : Ends) : WX := fun cls d σ H =>
  ∃ b, PySem.W.exmOne K cls c = some b ∧ (b = true → σ.length = m → ∀ a, H a = none → ts a cls d { nx := fun σ' H' => ∃ C dd, cls = .ref C ∧ d = some dd ∧ D.nx (σ'.set i none) (upd H' a (K84.exk a C dd)), rt := fun _ _ => False, bk := fun _ _ => False, ct := fun _ _ => False } (σ.set i (some (.ref a))) H) ∧
    (b = false → Wout cls d σ H)
section
variable {X : Cx} {x n : Str} {c : Value} {i m : Nat} {body suite : List Stmt} {b₀ : Stmt} {np pos pos' : Pos} {tb : WX → TS} {ts : Addr → Value → Option Addr → TS} {Wout : WX}
theorem ps_try_keep (hs : X.stack = X.env :: X.outer) (hf : X.env.frame = some X.env.locals) (hex : X.ex = []) (hN : X.N.Nodup) (hm : X.N.length = m) (hi : X.N[i]? = some n) (hln : X.env.kindOf n = some .local) (hc : Names X x c) (tk : Takes X Wout)
    (hb : ∀ (W : WX) (pn : List (Addr × Obj)) (xe : Value → Shared → Prop), Takes (X.tr pn xe) W → PassesOwn (model X.prog X.w) X.A X.env xe → PSs (X.tr pn xe) body (tb W))
    (hsu : ∀ (a : Addr) (oe : Obj) (cls : Value) (d : Option Addr) (pn : List (Addr × Obj)), Zc cls d oe → (∃ vs, oe.data = .fields vs) → PSs (X.suite a ((a, oe) :: pn)) (b₀ :: suite) (ts a cls d)) :
    PS X (.Try body [.ExceptHandler (some (.Name x np)) (some n) (b₀ :: suite) pos'] [] [] pos) (fun D σ H => tb (wAsK X.K c i m ts Wout D) D σ H) := by
  refine ⟨fun pins s σ H D I h => ?_⟩
  have ok := I.ok
  have hfr : X.A.frames = some (X.env :: X.outer) := by rw [ok.frames, hs]
  have hloc : Loc X.env.scope n := .inl hln
  refine wpAny_Try_except ?_
  refine wpAny_mono ((hb (wAsK X.K c i m ts Wout D) (X.pn ++ pins) (fun e s₁ => wpAny (model X.prog X.w) X.A (noteFrame e X.env) (fun _ s₂ => wpAny (model X.prog X.w) X.A (setFlight e none) (fun _ s₃ =>
    wpAny (model X.prog X.w) X.A (handleBy e X.env [.ExceptHandler (some (.Name x np)) (some n) (b₀ :: suite) pos']) (SP X pins D) X.xe s₃) X.xe s₂) X.xe s₁) (fun u s' xx => ?_) PassesOwn.looking).run [] s σ H D (I.toTry _) h) (fun f s1 hsp => ?_) (fun e s1 he => he)
  · -- the catch
    obtain ⟨a, B, sI, pins', σ', H', cls, d, rfl, J', nb, up, sky, na, os, ag, b, hb1, hyes, hno⟩ := xx
    have J : Inv X pins σ' H' sI := J'.ofTry ok
    have sky' : Sky B (X.env :: X.outer) a (Zc cls d) X.env.locals s'.heap := by rw [← hs]; exact sky
    have na0 : B.get? a = none := by
      rcases sky' with h | h | h
      · exact h.2.1
      · exact h.2.1
      · exact h.2.1
    show wpAny (model X.prog X.w) X.A (noteFrame (.ref a) X.env) _ _ _
    refine Sky.land Zc.steady hfr hf sky' fun h3 fl3 up3 => ?_
    have J3 : Inv X pins σ' H' { s' with heap := h3 } := J.landed nb fl3.1 (up.trans up3) os ag
    obtain ⟨oe3, vs3, he3, hz3, hd3⟩ := fl3.there
    have notFr : ∀ {h : Heap} {o : Obj} {vs : Array Value}, h.FunFrames B (X.env :: X.outer) → h.get? a = some o → o.data = .fields vs → a ∉ frs (X.env :: X.outer) := fun {h o vs} ff e dd hm => by
      obtain ⟨_, o', e', hnf⟩ := ff.mem hm
      rw [e] at e'; cases e'
      exact hnf _ dd
    have nfr := notFr fl3.2.2.1 he3 hd3
    have nL : a ≠ X.env.locals := fun z => nfr (List.mem_filterMap.mpr ⟨X.env, List.mem_cons_self, by rw [hf, z]⟩)
    have nF : a ∉ X.fs := fun hm => by
      obtain ⟨e, he, q⟩ := List.mem_filterMap.mp hm
      exact nfr (List.mem_filterMap.mpr ⟨e, List.mem_cons_of_mem _ he, q⟩)
    have s00 : X.s_0.heap.get? a = none := by
      cases e : X.s_0.heap.get? a with
      | none => rfl
      | some o =>
        obtain ⟨o', e'⟩ := J.base.there a o e (by rw [hex]; exact fun z => nomatch z)
        have z := nb a o' e' (by rw [hs]; exact nfr)
        rw [na0] at z
        cases z
    have pna : ∀ p ∈ X.pn ++ pins, p.1 ≠ a := fun p hp z => by
      obtain ⟨q1, _, q3, q4, _⟩ := J.pin p hp
      have nf : p.1 ∉ frs X.stack := by
        rw [hs]
        intro hm
        obtain ⟨e, he, q⟩ := List.mem_filterMap.mp hm
        rcases List.mem_cons.mp he with rfl | he
        · rw [hf] at q
          exact q3 (Option.some.inj q).symm
        · exact q4 (List.mem_filterMap.mpr ⟨e, he, q⟩)
      have y := nb p.1 p.2 q1 nf
      rw [z, na0] at y
      cases y
    have S3 := J3.suite he3 hd3 na nL nF
    refine wpAny_handleBy_cons (codeAny_handlers_test ?_) (by intro q; cases q)
    have LT : PySem.W.Looks (model X.prog X.w) h3 (typeOf (.ref a)) cls := fun A Q E s k q => wpAny_typeOf_ref (k _ _ he3) (by rw [hz3.1]; exact q)
    have LM := PySem.W.exm_one (M := model X.prog X.w) (J3.kIn) LT hb1
    have test : ∀ {Q : Value → Shared → Prop} {E : Value → Shared → Prop}, Q c { s' with heap := h3 } → wpAny (model X.prog X.w) (X.A.mark (some (.ref a))) (eval (.Name x np) X.env) Q E { s' with heap := h3 } := fun {Q E} q => by
      obtain ⟨hg, hdbg, hm | ⟨hm, hv, hnn⟩⟩ := hc
      · exact ld_glob (X := X.suite a ((a, oe3) :: (X.pn ++ pins))) S3 hg hm q hdbg
      · exact ld_blt (X := X.suite a ((a, oe3) :: (X.pn ++ pins))) S3 hg hm hv q hnn hdbg
    refine test (LM.here ?_)
    cases b with
    | true =>
      refine codeAny_handlers_suite_as ?_
      refine HandSPX.lands_againZ fl3 fun h4 fl4 up4 => ?_
      have J4 : Inv X pins σ' H' { s' with heap := h4 } := J.landed nb fl4.1 ((up.trans up3).trans up4) os ag
      obtain ⟨oe4, vs4, he4, hz4, hd4⟩ := fl4.there
      have S4 := J4.suite he4 hd4 na nL nF
      refine store_ok (X := X.suite a ((a, oe4) :: (X.pn ++ pins))) (v := .ref a) S4 hN hi hloc rfl (fun s5 S5 => ?_) (.inr hln)
      refine wpAny_mono ((hsu a oe4 cls d (X.pn ++ pins) hz4 ⟨_, hd4⟩).run [] s5 _ H' _ S5 (hyes rfl (by rw [J.len]; exact hm) a na)) (fun f s6 hsp => ?_) (fun _ _ z => False.elim z)
      cases f with
      | next =>
        obtain ⟨σ6, H6, S6, C, dd, eC, ed, q6⟩ := hsp
        subst eC ed
        obtain ⟨y1, y2, _⟩ := S6.pin (a, oe4) (List.mem_append_left _ List.mem_cons_self)
        have J6 : Inv X pins σ6 H6 s6 := S6.unsuite ok
        have J7 := J6.track y2 s00 y1 hz4.1 hz4.2 ⟨_, hd4⟩ nL pna
        exact gone_ok J7 hN hi hln fun s7 J8 => ⟨_, _, J8, q6⟩
      | brk =>
        obtain ⟨σ6, H6, S6, q6⟩ := hsp
        exact q6.elim
      | cont =>
        obtain ⟨σ6, H6, S6, q6⟩ := hsp
        exact q6.elim
      | ret u =>
        obtain ⟨v6, σ6, H6, S6, r6, q6⟩ := hsp
        exact q6.elim
    | false =>
      show wpAny _ X.A (handleBy (.ref a) X.env []) _ _ _
      refine wpAny_handleBy_nil ?_
      obtain ⟨k1, k2, k3, oe, vs, T, oT, ts', he, hz, hd, h1, hr⟩ := id fl3
      unfold PySem.passOn
      refine wpAny_bind (wpAny_field he hd h1 ?_)
      rw [if_neg (show ¬ ((Value.ref T == Value.none) = true) from by simp)]
      have fin : wpAny (model X.prog X.w) X.A (setFlight (.ref a) X.env.frame) (fun _ s4 => wpAny (model X.prog X.w) X.A (throw (.ref a) : Sem Flow) (SP X pins D) X.xe s4) X.xe { s' with heap := h3 } := by
        rw [hf]
        refine HandSPX.setFlight_upZ fl3 fun h4 hh4 up4 => wpAny_throw (tk _ _ ?_)
        exact ⟨a, B, sI, pins, σ', H', cls, d, rfl, J, nb, (up.trans up3).trans up4, .inr (.inr (by rw [hs]; exact hh4)), na, os, ag, hno rfl⟩
      first
        | exact wpAny_bind (wpAny_pure (wpAny_bind fin))
        | exact wpAny_bind fin
  · cases f with
    | next =>
      obtain ⟨σ', H', J', q⟩ := hsp
      exact wpAny_execs_nil ⟨σ', H', J'.ofTry ok, q⟩
    | brk =>
      obtain ⟨σ', H', J', q⟩ := hsp
      exact ⟨σ', H', J'.ofTry ok, q⟩
    | cont =>
      obtain ⟨σ', H', J', q⟩ := hsp
      exact ⟨σ', H', J'.ofTry ok, q⟩
    | ret u =>
      obtain ⟨v, σ', H', J', r, q⟩ := hsp
      exact ⟨v, σ', H', J'.ofTry ok, r, q⟩
end

/-! ### isinstance of a kept error -/
/-- what the class says, so that isinstance asks rightly -/
structure ExcC (K : PySem.W.Frag) (D : Addr) : Prop where
  hc : (PySem.W.clsIn K D).isSome = true
  hg : PySem.W.findIn K (.ref D) "__getattribute__" = some (some (.builtin "BaseException.__getattribute__"))
  hk : ∃ gt, PySem.W.findIn K (.ref D) "__getattr__" = some gt
  hs : PySem.W.subIn K (.ref D) (.type "BaseException") = some true
  ha : PySem.W.findIn K (.ref D) "__class__" = some (some (.builtin "object.__class__"))
  hn : PySem.W.specialIn K (.builtin "object.__class__") "__get__" = some (some (.builtin "getset_descriptor.__get__"))
  ht : PySem.W.takesIn K (.builtin "object.__class__") = some true
  hm : PySem.W.mroIn K D (.type "object") = some true
/-- isinstance(e, c) | isinstance(e, (c, ..)) of a kept error -/
def rIsK (K : PySem.W.Frag) : List V → Hp → VK → Prop := fun xs H Q => ∃ (a C dd : Addr) (fs : List (Str × V)) (c : V) (b : Bool), xs = [.ref a, c] ∧ H a = some (K84.exk a C dd) ∧ H dd = some (.xd fs) ∧ ExcC K C ∧
  ((∃ cv, ClsV c cv ∧ PySem.W.kitOne K (.ref C) cv = some b) ∨ ∃ tp cs us, c = .ref tp ∧ H tp = some (.tup cs) ∧ Paired ClsV cs us ∧ PySem.W.kitAny K (.ref C) us = some b) ∧ Q (.bl b) H
theorem call_isK {X : Cx} : CallR X (.builtin "isinstance") (rIsK X.K) := by
  intro pins s σ H xs us Q I r h
  obtain ⟨a, C, dd, fs, c, b, rfl, ea, ed, T, hc, q⟩ := h
  obtain ⟨u1, u2, rfl, r1, r2⟩ := vals2 r
  cases r1
  obtain ⟨oe, h1, h2, h3, vs, h4⟩ := exk_at I.hok ea
  have hd : ObjOk X.prog X.w H s.heap dd (.xd fs) := I.hok dd _ ed
  obtain ⟨mA, ⟨od, es, ep, hod, _⟩, _⟩ := hd
  have J : PySem.W.InstAt s.heap a oe C (some od) := by
    obtain ⟨oc, odi, oda, osl⟩ := oe
    dsimp only at h2 h3 h4
    subst h2 h3 h4
    exact ⟨h1, rfl, rfl, hod⟩
  obtain ⟨gt, hgt⟩ := T.hk
  have Z := PySem.W.kitx_exc (x := a) (ox := oe) (od := some od) T.hc T.hg hgt T.hs T.ha T.hn T.ht T.hm
  rcases hc with ⟨cv, k, e⟩ | ⟨tp, cs, ws, rfl, hT, k, e⟩
  · have e2 := k.eq r2
    subst e2
    exact PySem.W.kia_one Z I.kIn J e (fun z => nomatch z) fun tk => ⟨.bl b, H, I.tok tk, rfl, q⟩
  · cases (show u2 = Value.ref tp from r2)
    obtain ⟨_, its, rv, o, h1', h2', n, h3'⟩ := (show ObjOk X.prog X.w H s.heap tp (.tup cs) from I.hok tp _ hT)
    have e3 := ClsV.all k rv
    subst e3
    obtain ⟨oc, od', dt, sl⟩ := o
    simp only at h2' h3'
    subst h2' h3'
    exact PySem.W.kia_tup Z I.kIn J h1' e (fun z => nomatch z) fun tk => ⟨.bl b, H, I.tok tk, rfl, q⟩
end L2

namespace K84
open PySem PySem.Spec PyProof.Rows L2
/-! ### raise -/
/-- the own __init__: (self, row) -/
def spI (K : PySem.W.Frag) : Sp := fun vs H Q _ => ∃ a C, vs = [.ref a, .non] ∧ OexC K C ∧ PySem.W.findIn K (.ref C) "row" = some none ∧ H a = some (exo a C none) ∧ ∀ dx, H dx = none → dx ≠ a → Q .non (upd (upd H dx (exd dx [("row", .non)])) a (exo a C (some dx)))
/-- the parts of a class whose instances are raised -/
structure RC1 (K : PySem.W.Frag) (C : Addr) : Prop where
  o : OexC K C
  f : PySem.W.findIn K (.ref C) "row" = some none
section
variable {Γ : Ctx} {ss : Sd} {e : EndD}
theorem ws_raise (T : RC1 Γ.K Γ.C) (h : e.x) : WpS Γ (fun _ σ H => tMkO Γ.C (spI Γ.K) [.non] tNil σ H fun cls d H' => Γ.E cls d H') ss e := fun Pr G H σ v s D kn kr kx => by
  refine ⟨Nat.zero_le _, fun a ha => ⟨a, Γ.C, rfl, T.o, T.f, upd_same, fun dx hd hne => ⟨rfl, dx, [("row", .non)], upd_same, ?_, ?_, ?_⟩⟩⟩
  · rw [upd_ne hne, upd_same]
  · rw [upd_ne hne] at hd
    exact hd
  · rw [upd_ne hne] at hd
    refine kx h dx _ _ (fun b o _ e => ?_) upd_same
    have h1 : b ≠ a := ne_of_none e ha
    have h2 : b ≠ dx := ne_of_none e hd
    rw [upd_ne h2, del_ne h1, upd_ne h1, upd_ne h2, upd_ne h1]
    exact e
/-- the __init__'s body -/
theorem init_body {K : PySem.W.Frag} {N : List Str} {vs : List V} {H : Hp} {Q : VK} {E : XK} {tx : TE} {z : Str} (hN : N.length = 2) (h : spI K vs H Q E) :
    tSeq (tDrop (tVeI K (tCons (tVar 0) (tCons (tIf (tTest (tOp rIsNn (tVar 1) (tC .non))) (tC (.str z)) tx) tNil)))) (tSeq (tOst K "row" (tVar 0) (tVar 1)) tNext) { nx := fun _ H' => Q .non H', rt := Q } (L2.start N vs) H := by
  obtain ⟨a, C, rfl, T, hf, ha, q⟩ := h
  have e : L2.start N [.ref a, .non] = [some (.ref a), some .non] := by
    unfold L2.start
    simp [hN]
  rw [e]
  show ∃ v : V, _ ∧ _
  refine ⟨.ref a, rfl, ?_⟩
  show ∃ v : V, _ ∧ _
  refine ⟨V.non, rfl, rfl, _, rfl, ?_⟩
  show (if decide (V.non = V.non) = true then _ else _)
  rw [if_pos (decide_eq_true rfl)]
  refine ⟨a, C, [V.str z], rfl, (by show 1 ≤ 1000; decide), T, ha, ?_⟩
  exact ⟨V.non, rfl, V.ref a, rfl, a, C, rfl, T, hf, .inl ⟨ha, fun dx hd hne => q dx hd hne⟩⟩
end

/-! ### try .. except X as e: keeps the error -/
section
variable {Γ : Ctx} {ss : Sd} {e : EndD}
/-- slots of which only two are told -/
def onlyD (n i : Nat) (d : Dv) : Sd := (List.replicate n none).set i (some d)
theorem sl_any {K : PySem.W.Frag} {G : Hp} : ∀ {n : Nat} {σ : L2.St}, σ.length = n → Sl K G σ (List.replicate n none)
  | 0, [], _ => .nil
  | n + 1, o :: σ, h => .cons trivial (sl_any (Nat.succ.inj h))
  | 0, _ :: _, h => by cases h
  | _ + 1, [], h => by cases h
/-- try: x = f(..) except c as e: y = e -/
theorem ws_try {α : Type} {M : α → Mode} {arg : α → List Dv} {A : α → Prop} {P : α → PyData → Prop} {X : α → Prop} {te : TA → (Value → Option Addr → Hp → Prop) → TE} {ta : TA} {cH : Value} {ix ie iy n : Nat} {Wout : Ends → WX}
    (hne : ie ≠ iy) (hn : ie < n) (hn2 : iy < n) (hM : ∀ a, M a = Mode.no) (hT : ∀ ta E, te ta E = fun σ H Q => ta σ H fun vs H1 => spD Γ.K Γ.C M arg A P X vs H1 Q E) (hm : PySem.W.exmOne Γ.K (.ref Γ.C) cH = some true)
    (h : WpA Γ ta ss (fun ds => ∃ a, ds = arg a ∧ A a ∧ (∀ d, P a d → e.nx (ss.set ix (some (.d d)))) ∧ (X a → e.nx (onlyD n iy (.e Γ.C)))) e.x) :
    WpS Γ (fun D σ H => (fun W : WX => tAsg (te ta fun cls d H' => ∀ σ, W cls d σ H') (gName ix)) (wAsK Γ.K cH ie n (fun _ _ _ => tAsg (tVar ie) (gName iy)) (Wout D) D) D σ H) ss e := fun Pr G H σ v s D kn kr kx => by
  show te ta _ σ H _
  rw [hT]
  refine h Pr G H σ v s _ (fun ds vs G1 H1 ⟨a0, ed, ha, hp, hx⟩ g rs => ?_) kx
  subst ed
  have u : Mode.Sub (M a0) Γ.M := by rw [hM a0]; exact .no
  refine ⟨a0, G1, Pr, ha, rs, g.vw.sub u, fun d w G2 H2 hd g2 rd => ?_, fun z dd fs H2 k2 hdd σ' => ⟨true, hm, fun _ hl a na => ?_, fun z => nomatch z⟩⟩
  · exact kn _ _ G2 H2 (hp d hd) (g.trans (g2.sub u g.vw)) (Sl.set (d := .d d) rd ix (s.mono (g.trans (g2.sub u g.vw)).g))
  · have hlt : ie < σ'.length := by omega
    refine ⟨.ref a, List.getElem?_set_self hlt, Γ.C, dd, rfl, rfl, ?_⟩
    rw [hM a0] at k2
    have s12 : Same H1 H2 := k2.to_same
    have nea : ∀ {b : Addr} {o : HO}, H2 b = some o → b ≠ a := fun {b o} q => ne_of_none q na
    have s23 : Same H2 (upd H2 a (exk a Γ.C dd)) := fun b o q => by
      rw [upd_ne (nea q)]
      exact q
    have s13 := s12.trans s23
    have sg : Same G1 (upd (upd G1 dd (.xd fs)) a (exk a Γ.C dd)) := fun b o q => by
      have q2 := s12 b o (g.vw.sm b o q)
      rw [upd_ne (nea q2)]
      by_cases zd : b = dd
      · subst zd
        rw [upd_same, ← q2, hdd]
      · rw [upd_ne zd]
        exact q
    have vw2 : Vw Γ.M Pr (upd (upd G1 dd (.xd fs)) a (exk a Γ.C dd)) (upd H2 a (exk a Γ.C dd)) := by
      refine ⟨fun b o q => ?_, fun b hb => ?_, g.vw.ow, Γ.M.st g.vw.lf sg fun b o _ q => s13 b o q⟩
      · by_cases za : b = a
        · subst za
          rw [upd_same] at q ⊢
          exact q
        · rw [upd_ne za] at q ⊢
          by_cases zd : b = dd
          · subst zd
            rw [upd_same] at q
            rw [← q]
            exact hdd
          · rw [upd_ne zd] at q
            exact s12 b o (g.vw.sm b o q)
      · obtain ⟨h1, o, h2, h3⟩ := g.vw.pr b hb
        have q2 := s12 b o h2
        have za := nea q2
        have zd : b ≠ dd := fun zd => by
          rw [zd, hdd] at q2
          exact h3 fs (Option.some.inj q2).symm
        rw [upd_ne za, upd_ne zd, upd_ne za]
        exact ⟨h1, o, q2, h3⟩
    refine kn _ _ (upd (upd G1 dd (.xd fs)) a (exk a Γ.C dd)) _ (hx z) ⟨vw2, g.g.trans sg, g.h.trans (Kp.same s13)⟩ ?_
    have ra : DvR Γ.K (upd (upd G1 dd (.xd fs)) a (exk a Γ.C dd)) (.ref a) (.e Γ.C) := by
      refine ⟨a, dd, fs, rfl, upd_same, ?_⟩
      rw [upd_ne (nea hdd), upd_same]
    have hl' : (σ'.set ie (some (.ref a))).length = n := by rw [List.length_set]; exact hl
    have q := Sl.set0 (o := none) ie (Sl.set ra iy (sl_any (K := Γ.K) (G := upd (upd G1 dd (.xd fs)) a (exk a Γ.C dd)) hl'))
    have e2 : ((List.replicate n none : Sd).set iy (some (.e Γ.C))).set ie none = onlyD n iy (.e Γ.C) := by
      unfold onlyD
      rw [List.set_comm _ _ (Ne.symm hne)]
      congr 1
      exact List.set_replicate_self
    rw [e2] at q
    exact q
end
/-! ### what is asked of a kept error -/
section
variable {Γ : Ctx} {ss : Sd} {k : Dv → Prop} {x : Prop} {te : TE} {ta : TA}
theorem rd_isE {C : Addr} (q : k (.d (.bool false))) : RD Γ rIsNn (.e C) (.d .none) k := fun Pr G H v w vw ra rb Q hq => by
  obtain ⟨a, dd, fs, ev, _⟩ := ra
  subst ev
  cases rb
  exact ⟨rfl, hq _ _ G H q (Go.refl vw) (.bl _)⟩
theorem wp_isK1 {C : Addr} {c : V} {cv : Value} {b : Bool} (T : ExcC Γ.K C) (hc : ClsV c cv) (hb : PySem.W.kitOne Γ.K (.ref C) cv = some b) (h : Wp Γ te ss (fun d => d = .e C ∧ k (.d (.bool b))) x) : Wp Γ (tCB (rIsK Γ.K) (tCons te (tCons (tC c) tNil))) ss k x := fun Pr G H σ v s Q hq hx =>
  h Pr G H σ v s _ (fun d z G1 H1 ⟨ed, hk⟩ g rd => by
    subst ed
    obtain ⟨a, dd, fs, ev, h1, h2⟩ := rd
    subst ev
    exact ⟨a, C, dd, fs, c, b, rfl, g.vw.sm _ _ h1, g.vw.sm _ _ h2, T, .inl ⟨cv, hc, hb⟩, hq _ _ G1 H1 hk g (.bl _)⟩) hx
theorem wp_isKt {C c1 c2 c3 : Addr} {b : Bool} (T : ExcC Γ.K C) (hb : PySem.W.kitAny Γ.K (.ref C) [.ref c1, .ref c2, .ref c3] = some b) (h : Wp Γ te ss (fun d => d = .e C ∧ k (.d (.bool b))) x) :
    Wp Γ (tCB (rIsK Γ.K) (tCons te (tCons (tTup (tCons (tC (.ref c1)) (tCons (tC (.ref c2)) (tCons (tC (.ref c3)) tNil)))) tNil))) ss k x := fun Pr G H σ v s Q hq hx =>
  h Pr G H σ v s _ (fun d z G1 H1 ⟨ed, hk⟩ g rd => by
    subst ed
    obtain ⟨a, dd, fs, ev, h1, h2⟩ := rd
    subst ev
    refine ⟨(by show 3 ≤ sizeLine; rw [sizeLine_eq]; decide), fun p hp => ?_⟩
    have n := g.vw.new (o := .tup [.ref c1, .ref c2, .ref c3]) hp
    refine ⟨a, C, dd, fs, .ref p, b, rfl, n.vw.sm _ _ (n.g _ _ h1), n.vw.sm _ _ (n.g _ _ h2), T, .inr ⟨p, _, _, rfl, upd_same, .cons (.own c1) (.cons (.own c2) (.cons (.own c3) .nil)), hb⟩, hq _ _ _ _ hk (g.trans n) (.bl _)⟩) hx
end
end K84

/-! part K84T -/
set_option maxHeartbeats 0
/-! K84T: the program's text by places, and what the head is to tell of it. -/
namespace K84
open PySem PySem.Spec PyProof.Rows L2
def top (i : Nat) : Stmt := PySem.Challenge.pw_holdword_k84_whole_any_words.main.body.getD i (.Pass ⟨0, 0, 0, 0⟩)
def findDef (m : Str) : List Stmt → Stmt
  | .FunctionDef n a b c d e f g h i :: r => if n = m then .FunctionDef n a b c d e f g h i else findDef m r
  | _ :: r => findDef m r
  | [] => .Pass ⟨0, 0, 0, 0⟩
def classBody : Stmt → List Stmt
  | .ClassDef _ _ _ b _ _ _ _ _ _ _ => b
  | _ => []
def inC (i : Nat) (m : Str) : Stmt := findDef m (classBody (top i))

abbrev s_is_number : Stmt := top 3
abbrev s_is_word : Stmt := top 4
abbrev s_is_whole : Stmt := top 8
abbrev s_is_name_claims : Stmt := top 9
abbrev s_is_sort : Stmt := top 11
abbrev s_is_claim : Stmt := top 12
abbrev s_HoldError_init : Stmt := inC 14 "__init__"
abbrev s_is_house : Stmt := top 24
abbrev s_is_clause : Stmt := top 25
abbrev s_is_deed : Stmt := top 26
abbrev s_is_name_letters : Stmt := top 27
abbrev s_are_gots : Stmt := top 29
abbrev s_is_letter : Stmt := top 30
abbrev s_name_text : Stmt := top 33
abbrev s_deed_words : Stmt := top 34
abbrev s_shown_letter : Stmt := top 35
abbrev s_shown_claim : Stmt := top 36
abbrev s_words_of : Stmt := top 37
abbrev s_number_of : Stmt := top 38
abbrev s_name_of_text : Stmt := top 39
abbrev s_deed_of : Stmt := top 40
abbrev s_Words_init : Stmt := inC 41 "__init__"
abbrev s_Words_peek : Stmt := inC 41 "peek"
abbrev s_Words_take : Stmt := inC 41 "take"
abbrev s_Words_take_prev : Stmt := inC 41 "take_prev"
abbrev s_Words_take_gots : Stmt := inC 41 "take_gots"
abbrev s_Words_take_time : Stmt := inC 41 "take_time"
abbrev s_read_letter : Stmt := top 42
abbrev s_claim_part : Stmt := top 43
abbrev s_read_claim : Stmt := top 44
abbrev s_law_cell_at : Stmt := top 46
abbrev s_law_left : Stmt := top 47
abbrev s_law_pick : Stmt := top 48
abbrev s_law_number : Stmt := top 49
abbrev s_law_word : Stmt := top 50
abbrev s_law_name : Stmt := top 51
abbrev s_law_deed : Stmt := top 52
abbrev s_law_letter : Stmt := top 53
abbrev s_law_name_text : Stmt := top 54
abbrev s_law_letter_words : Stmt := top 55
abbrev s_law_claim : Stmt := top 56
abbrev s_law_claim_words : Stmt := top 57
abbrev s_law_text : Stmt := top 58
abbrev s_law_told : Stmt := top 59
abbrev s_law_same : Stmt := top 60
abbrev s_law_called : Stmt := top 61
abbrev s_law_whole : Stmt := top 62
abbrev s_law_named : Stmt := top 63
abbrev s_law_done : Stmt := top 64
abbrev s_law_due : Stmt := top 65
abbrev s_law_claim_due : Stmt := top 66
abbrev s_law_changed : Stmt := top 67
abbrev s_law_right : Stmt := top 68
abbrev s_law : Stmt := top 69

/-- an own exception class over ValueError, with a dict -/
def oexB (K : PySem.W.Frag) (C : Addr) : Bool := match K.lookup C with
  | some ⟨.type t, _, .cls ⟨_, _, mro, _, _, hd, _, _, _, _, del⟩, sl⟩ => (match mro, sl.toList with
    | .ref C' :: bm, [_, _, _, _, some (.builtin n), _] => decide (t = "type") && (decide (C' = C) && (decide (n = "ValueError.__new__") && (hd && (!del && PySem.HandSPX.refsVE bm))))
    | _, _ => false)
  | _ => false
theorem oexB_ok {K : PySem.W.Frag} {C : Addr} (h : oexB K C = true) : ∃ nm q N bs bm sn sub ab col dd k0 k1 k2 k3 k5, K.lookup C = some (excClassObj nm q C N bs bm true sn sub ab col dd k0 k1 k2 k3 k5 "ValueError.__new__") ∧ PySem.HandSPX.refsVE bm = true := by
  unfold oexB at h
  split at h
  · rename_i t dd nm bs mro N q hd sn sub ab col del sl ho
    split at h
    · rename_i slL C' bm k0 k1 k2 k3 n k5 hs
      simp only [Bool.and_eq_true, decide_eq_true_eq, Bool.not_eq_true'] at h
      obtain ⟨h1, h2, h3, h4, h5, h6⟩ := h
      subst h1 h2 h3 h4 h5
      have e : sl = #[k0, k1, k2, k3, some (.builtin "ValueError.__new__"), k5] := by
        rw [← Array.toList_inj]
        exact hs
      subst e
      exact ⟨nm, q, N, bs, bm, sn, sub, ab, col, dd, k0, k1, k2, k3, k5, ho, h6⟩
    · cases h
  · cases h
/-- the tuple that the key k of SHAPES has -/
def shapeAt (K : PySem.W.Frag) (k : Str) : Addr := match PySem.W.nsIn K (He.ga K "SHAPES") k with
  | some (some (.ref p)) => p
  | _ => 0
def tupAtB (K : PySem.W.Frag) (a : Addr) (vs : List V) : Bool := match K.lookup a with
  | some ⟨.type c, _, .seq its _, _⟩ => decide (c = "tuple") && (decide (its.size ≤ sizeLine) && He.relAll vs its.toList)
  | _ => false
theorem tupAtB_ok {K : PySem.W.Frag} {a : Addr} {vs : List V} (h : tupAtB K a vs = true) (H : Hp) : SqT K H a vs := by
  unfold tupAtB at h
  split at h
  · rename_i c od its n sl ho
    simp only [Bool.and_eq_true, decide_eq_true_eq] at h
    obtain ⟨h1, h2, h3⟩ := h
    exact .inr ⟨_, its, n, ho, congrArg Value.type h1, rfl, h2, He.relAll_ok h3⟩
  · cases h
/-- SHAPES' rows -/
def shapes : List (Str × List Str) := [("held", ["name", "clause", "time"]), ("kept", ["name", "clause"]), ("late", ["name", "clause"]), ("ill", ["name"]), ("back", ["name"]), ("twin", ["name", "name"]), ("loose", ["name"]), ("behind", ["name"]), ("ahead", ["name"])]
def shapesB (K : PySem.W.Frag) : Bool := shapes.all fun q => decide (PySem.W.nsIn K (He.ga K "SHAPES") q.1 = some (some (.ref (shapeAt K q.1)))) && tupAtB K (shapeAt K q.1) (q.2.map V.str)
/-- NoLetter, HoldError and theirs -/
def excB (K : PySem.W.Frag) : Bool :=
  oexB K (He.ga K "NoLetter") && (He.eqO (PySem.W.findIn K (.ref (He.ga K "NoLetter")) "__setattr__") (some (some (.builtin "object.__setattr__"))) && (decide (PySem.W.subIn K (.ref (He.ga K "NoLetter")) (.type "BaseException") = some true) &&
  (decide (PySem.W.typeIn K (.ref (He.ga K "NoLetter")) = some (.type "type")) && (PySem.W.keepIn K (.ref (He.ga K "NoLetter")) && (He.eqO (PySem.W.findIn K (.ref (He.ga K "NoLetter")) "row") (some none) &&
  (He.eqO (PySem.W.findIn K (.ref (He.ga K "NoLetter")) "__init__") (some (some (.ref (He.ma K (He.ga K "HoldError") "__init__")))) && (decide (PySem.W.typeIn K (.ref (He.ma K (He.ga K "HoldError") "__init__")) = some (.type "function")) &&
  decide (PySem.W.exmOne K (.ref (He.ga K "NoLetter")) (.ref (He.ga K "HoldError")) = some true))))))))
def isB (K : PySem.W.Frag) : Bool :=
  (PySem.W.clsIn K (He.ga K "NoLetter")).isSome && (He.eqO (PySem.W.findIn K (.ref (He.ga K "NoLetter")) "__getattribute__") (some (some (.builtin "BaseException.__getattribute__"))) && ((PySem.W.findIn K (.ref (He.ga K "NoLetter")) "__getattr__").isSome &&
  (He.eqO (PySem.W.findIn K (.ref (He.ga K "NoLetter")) "__class__") (some (some (.builtin "object.__class__"))) && (He.eqO (PySem.W.specialIn K (.builtin "object.__class__") "__get__") (some (some (.builtin "getset_descriptor.__get__"))) &&
  (decide (PySem.W.takesIn K (.builtin "object.__class__") = some true) && (decide (PySem.W.mroIn K (He.ga K "NoLetter") (.type "object") = some true) &&
  (decide (PySem.W.kitOne K (.ref (He.ga K "NoLetter")) (.ref (He.ga K "NoLetter")) = some true) && (decide (PySem.W.kitOne K (.ref (He.ga K "NoLetter")) (.type "ValueError") = some true) &&
  decide (PySem.W.kitAny K (.ref (He.ga K "NoLetter")) [.ref (He.ga K "NoTown"), .ref (He.ga K "NoPile"), .ref (He.ga K "NoRow")] = some false)))))))))
def dec2B (K : PySem.W.Frag) : Bool := (match PySem.W.findCls K (.type "ValueError") (.type "type") "__init__" with
  | some (.val (.builtin n)) => decide (n = "ValueError.__init__")
  | _ => false)
def exB (K : PySem.W.Frag) : Bool := shapesB K && (He.tupB K "CLAUSE_DEEDS" [.str "free", .str "ready", .str "quit"] && (excB K && (isB K && dec2B K)))

def d_is_number : He.DefD := ⟨("is_number", none), "is_number", "is_number", defArgs s_is_number, defBody s_is_number, defScope s_is_number, [], []⟩
def d_is_word : He.DefD := ⟨("is_word", none), "is_word", "is_word", defArgs s_is_word, defBody s_is_word, defScope s_is_word, [], []⟩
def d_is_whole : He.DefD := ⟨("is_whole", none), "is_whole", "is_whole", defArgs s_is_whole, defBody s_is_whole, defScope s_is_whole, [], []⟩
def d_is_name_claims : He.DefD := ⟨("is_name_claims", none), "is_name", "is_name", defArgs s_is_name_claims, defBody s_is_name_claims, defScope s_is_name_claims, [], []⟩
def d_is_sort : He.DefD := ⟨("is_sort", none), "is_sort", "is_sort", defArgs s_is_sort, defBody s_is_sort, defScope s_is_sort, [], []⟩
def d_is_claim : He.DefD := ⟨("is_claim", none), "is_claim", "is_claim", defArgs s_is_claim, defBody s_is_claim, defScope s_is_claim, [], []⟩
def d_HoldError_init : He.DefD := ⟨("HoldError", some "__init__"), "__init__", "HoldError.__init__", defArgs s_HoldError_init, defBody s_HoldError_init, defScope s_HoldError_init, [.non], []⟩
def d_is_house : He.DefD := ⟨("is_house", none), "is_house", "is_house", defArgs s_is_house, defBody s_is_house, defScope s_is_house, [], []⟩
def d_is_clause : He.DefD := ⟨("is_clause", none), "is_clause", "is_clause", defArgs s_is_clause, defBody s_is_clause, defScope s_is_clause, [], []⟩
def d_is_deed : He.DefD := ⟨("is_deed", none), "is_deed", "is_deed", defArgs s_is_deed, defBody s_is_deed, defScope s_is_deed, [], []⟩
def d_is_name_letters : He.DefD := ⟨("is_name_letters", none), "is_name", "is_name", defArgs s_is_name_letters, defBody s_is_name_letters, defScope s_is_name_letters, [], []⟩
def d_are_gots : He.DefD := ⟨("are_gots", none), "are_gots", "are_gots", defArgs s_are_gots, defBody s_are_gots, defScope s_are_gots, [], []⟩
def d_is_letter : He.DefD := ⟨("is_letter", none), "is_letter", "is_letter", defArgs s_is_letter, defBody s_is_letter, defScope s_is_letter, [], []⟩
def d_name_text : He.DefD := ⟨("name_text", none), "name_text", "name_text", defArgs s_name_text, defBody s_name_text, defScope s_name_text, [], []⟩
def d_deed_words : He.DefD := ⟨("deed_words", none), "deed_words", "deed_words", defArgs s_deed_words, defBody s_deed_words, defScope s_deed_words, [], []⟩
def d_shown_letter : He.DefD := ⟨("shown_letter", none), "shown_letter", "shown_letter", defArgs s_shown_letter, defBody s_shown_letter, defScope s_shown_letter, [], []⟩
def d_shown_claim : He.DefD := ⟨("shown_claim", none), "shown_claim", "shown_claim", defArgs s_shown_claim, defBody s_shown_claim, defScope s_shown_claim, [], []⟩
def d_words_of : He.DefD := ⟨("words_of", none), "words_of", "words_of", defArgs s_words_of, defBody s_words_of, defScope s_words_of, [], []⟩
def d_number_of : He.DefD := ⟨("number_of", none), "number_of", "number_of", defArgs s_number_of, defBody s_number_of, defScope s_number_of, [], []⟩
def d_name_of_text : He.DefD := ⟨("name_of_text", none), "name_of_text", "name_of_text", defArgs s_name_of_text, defBody s_name_of_text, defScope s_name_of_text, [], []⟩
def d_deed_of : He.DefD := ⟨("deed_of", none), "deed_of", "deed_of", defArgs s_deed_of, defBody s_deed_of, defScope s_deed_of, [], []⟩
def d_Words_init : He.DefD := ⟨("Words", some "__init__"), "__init__", "Words.__init__", defArgs s_Words_init, defBody s_Words_init, defScope s_Words_init, [], []⟩
def d_Words_peek : He.DefD := ⟨("Words", some "peek"), "peek", "Words.peek", defArgs s_Words_peek, defBody s_Words_peek, defScope s_Words_peek, [], []⟩
def d_Words_take : He.DefD := ⟨("Words", some "take"), "take", "Words.take", defArgs s_Words_take, defBody s_Words_take, defScope s_Words_take, [], []⟩
def d_Words_take_prev : He.DefD := ⟨("Words", some "take_prev"), "take_prev", "Words.take_prev", defArgs s_Words_take_prev, defBody s_Words_take_prev, defScope s_Words_take_prev, [], []⟩
def d_Words_take_gots : He.DefD := ⟨("Words", some "take_gots"), "take_gots", "Words.take_gots", defArgs s_Words_take_gots, defBody s_Words_take_gots, defScope s_Words_take_gots, [], []⟩
def d_Words_take_time : He.DefD := ⟨("Words", some "take_time"), "take_time", "Words.take_time", defArgs s_Words_take_time, defBody s_Words_take_time, defScope s_Words_take_time, [], []⟩
def d_read_letter : He.DefD := ⟨("read_letter", none), "read_letter", "read_letter", defArgs s_read_letter, defBody s_read_letter, defScope s_read_letter, [], []⟩
def d_claim_part : He.DefD := ⟨("claim_part", none), "claim_part", "claim_part", defArgs s_claim_part, defBody s_claim_part, defScope s_claim_part, [], []⟩
def d_read_claim : He.DefD := ⟨("read_claim", none), "read_claim", "read_claim", defArgs s_read_claim, defBody s_read_claim, defScope s_read_claim, [], []⟩
def d_law_cell_at : He.DefD := ⟨("_law_cell_at", none), "_law_cell_at", "_law_cell_at", defArgs s_law_cell_at, defBody s_law_cell_at, defScope s_law_cell_at, [], []⟩
def d_law_left : He.DefD := ⟨("_law_left", none), "_law_left", "_law_left", defArgs s_law_left, defBody s_law_left, defScope s_law_left, [], []⟩
def d_law_pick : He.DefD := ⟨("_law_pick", none), "_law_pick", "_law_pick", defArgs s_law_pick, defBody s_law_pick, defScope s_law_pick, [], []⟩
def d_law_number : He.DefD := ⟨("_law_number", none), "_law_number", "_law_number", defArgs s_law_number, defBody s_law_number, defScope s_law_number, [], []⟩
def d_law_word : He.DefD := ⟨("_law_word", none), "_law_word", "_law_word", defArgs s_law_word, defBody s_law_word, defScope s_law_word, [], []⟩
def d_law_name : He.DefD := ⟨("_law_name", none), "_law_name", "_law_name", defArgs s_law_name, defBody s_law_name, defScope s_law_name, [], []⟩
def d_law_deed : He.DefD := ⟨("_law_deed", none), "_law_deed", "_law_deed", defArgs s_law_deed, defBody s_law_deed, defScope s_law_deed, [], []⟩
def d_law_letter : He.DefD := ⟨("_law_letter", none), "_law_letter", "_law_letter", defArgs s_law_letter, defBody s_law_letter, defScope s_law_letter, [], []⟩
def d_law_name_text : He.DefD := ⟨("_law_name_text", none), "_law_name_text", "_law_name_text", defArgs s_law_name_text, defBody s_law_name_text, defScope s_law_name_text, [], []⟩
def d_law_letter_words : He.DefD := ⟨("_law_letter_words", none), "_law_letter_words", "_law_letter_words", defArgs s_law_letter_words, defBody s_law_letter_words, defScope s_law_letter_words, [], []⟩
def d_law_claim : He.DefD := ⟨("_law_claim", none), "_law_claim", "_law_claim", defArgs s_law_claim, defBody s_law_claim, defScope s_law_claim, [], []⟩
def d_law_claim_words : He.DefD := ⟨("_law_claim_words", none), "_law_claim_words", "_law_claim_words", defArgs s_law_claim_words, defBody s_law_claim_words, defScope s_law_claim_words, [], []⟩
def d_law_text : He.DefD := ⟨("_law_text", none), "_law_text", "_law_text", defArgs s_law_text, defBody s_law_text, defScope s_law_text, [], []⟩
def d_law_told : He.DefD := ⟨("_law_told", none), "_law_told", "_law_told", defArgs s_law_told, defBody s_law_told, defScope s_law_told, [], []⟩
def d_law_same : He.DefD := ⟨("_law_same", none), "_law_same", "_law_same", defArgs s_law_same, defBody s_law_same, defScope s_law_same, [], []⟩
def d_law_called : He.DefD := ⟨("_law_called", none), "_law_called", "_law_called", defArgs s_law_called, defBody s_law_called, defScope s_law_called, [], []⟩
def d_law_whole : He.DefD := ⟨("_law_whole", none), "_law_whole", "_law_whole", defArgs s_law_whole, defBody s_law_whole, defScope s_law_whole, [], []⟩
def d_law_named : He.DefD := ⟨("_law_named", none), "_law_named", "_law_named", defArgs s_law_named, defBody s_law_named, defScope s_law_named, [], []⟩
def d_law_done : He.DefD := ⟨("_law_done", none), "_law_done", "_law_done", defArgs s_law_done, defBody s_law_done, defScope s_law_done, [], []⟩
def d_law_due : He.DefD := ⟨("_law_due", none), "_law_due", "_law_due", defArgs s_law_due, defBody s_law_due, defScope s_law_due, [], []⟩
def d_law_claim_due : He.DefD := ⟨("_law_claim_due", none), "_law_claim_due", "_law_claim_due", defArgs s_law_claim_due, defBody s_law_claim_due, defScope s_law_claim_due, [], []⟩
def d_law_changed : He.DefD := ⟨("_law_changed", none), "_law_changed", "_law_changed", defArgs s_law_changed, defBody s_law_changed, defScope s_law_changed, [], []⟩
def d_law_right : He.DefD := ⟨("_law_right", none), "_law_right", "_law_right", defArgs s_law_right, defBody s_law_right, defScope s_law_right, [], []⟩
def d_law : He.DefD := ⟨("law", none), "law", "law", defArgs s_law, defBody s_law, defScope s_law, [], []⟩
def fn0 : List He.DefD := [d_is_number, d_is_word, d_is_whole, d_is_name_claims, d_is_sort, d_is_claim, d_HoldError_init, d_is_house, d_is_clause, d_is_deed, d_is_name_letters, d_are_gots, d_is_letter, d_name_text, d_deed_words, d_shown_letter, d_shown_claim, d_words_of, d_number_of, d_name_of_text]
def fn1 : List He.DefD := [d_deed_of, d_Words_init, d_Words_peek, d_Words_take, d_Words_take_prev, d_Words_take_gots, d_Words_take_time, d_read_letter, d_claim_part, d_read_claim, d_law_cell_at, d_law_left, d_law_pick, d_law_number, d_law_word, d_law_name, d_law_deed, d_law_letter, d_law_name_text, d_law_letter_words]
def fn2 : List He.DefD := [d_law_claim, d_law_claim_words, d_law_text, d_law_told, d_law_same, d_law_called, d_law_whole, d_law_named, d_law_done, d_law_due, d_law_claim_due, d_law_changed, d_law_right, d_law]
def fn : List He.DefD := fn0 ++ fn1 ++ fn2
def fa0 : List He.Fa := [.str "LETTERS" "abcdefghijklmnopqrstuvwxyz", .int "LONGEST" 12, .glo "is_number", .glo "is_word", .int "MOST_CLAUSE_claims" 11, .glo "SHAPES", .glo "is_whole", .glo "is_name", .glo "is_name_claims", .glo "is_sort", .glo "is_claim", .glo "HoldError", .glo "NoTown", .glo "NoPile", .glo "NoLetter", .glo "NoRow", .int "MOST_GOTS" 30, .int "MOST_CLAUSE_letters" 11, .int "MOST_PART" 8, .glo "CLAUSE_DEEDS", .glo "is_house", .glo "is_clause", .glo "is_deed", .glo "is_name_letters", .glo "are_gots", .glo "is_letter", .str "FIGURES" "0123456789", .glo "name_text", .glo "deed_words", .glo "shown_letter"]
def fa1 : List He.Fa := [.glo "shown_claim", .glo "words_of", .glo "number_of", .glo "name_of_text", .glo "deed_of", .glo "Words", .glo "read_letter", .glo "claim_part", .glo "read_claim", .glo "_law_cell_at", .glo "_law_left", .glo "_law_pick", .glo "_law_number", .glo "_law_word", .glo "_law_name", .glo "_law_deed", .glo "_law_letter", .glo "_law_name_text", .glo "_law_letter_words", .glo "_law_claim", .glo "_law_claim_words", .glo "_law_text", .glo "_law_told", .glo "_law_same", .glo "_law_called", .glo "_law_whole", .glo "_law_named", .glo "_law_done", .glo "_law_due", .glo "_law_claim_due"]
def fa2 : List He.Fa := [.glo "_law_changed", .glo "_law_right", .glo "law", .free "isinstance", .free "int", .free "bool", .free "str", .free "tuple", .free "len", .free "all", .free "range", .free "zip", .free "enumerate", .free "sorted", .free "min", .free "max", .free "list", .free "ValueError", .cls "Words", .mkr "Words", .noat "Words" "words", .noat "Words" "at", .meth "Words" "peek", .meth "Words" "take", .meth "Words" "take_prev", .meth "Words" "take_gots", .meth "Words" "take_time"]
def fa : List He.Fa := fa0 ++ fa1 ++ fa2
def ts : List He.Tab := [((fun K => He.ga K "SHAPES"), ["held", "kept", "late", "ill", "back", "twin", "loose", "behind", "ahead"])]
def loose0 : List PySem.Str := ["LETTERS", "LONGEST", "is_number", "is_word", "MOST_CLAUSE_claims", "SHAPES", "is_whole", "is_name", "is_name_claims", "is_sort", "is_claim", "HoldError", "NoTown", "NoPile", "NoLetter", "NoRow", "MOST_GOTS", "MOST_CLAUSE_letters", "MOST_PART", "CLAUSE_DEEDS", "is_house", "is_clause", "is_deed", "is_name_letters", "are_gots", "is_letter", "FIGURES", "name_text", "deed_words", "shown_letter"]
def loose1 : List PySem.Str := ["shown_claim", "words_of", "number_of", "name_of_text", "deed_of", "Words", "read_letter", "claim_part", "read_claim", "_law_cell_at", "_law_left", "_law_pick", "_law_number", "_law_word", "_law_name", "_law_deed", "_law_letter", "_law_name_text", "_law_letter_words", "_law_claim", "_law_claim_words", "_law_text", "_law_told", "_law_same", "_law_called", "_law_whole", "_law_named", "_law_done", "_law_due", "_law_claim_due"]
def loose2 : List PySem.Str := ["_law_changed", "_law_right"]
def loose : List PySem.Str := loose0 ++ loose1 ++ loose2
abbrev R : PySem.W.OpenRow := PySem.W.OpenLaw.row PySem.Challenge.rw_holdword_k84_whole_any_words
abbrev hk : PySem.W.Hook := He.hookX 6 fa fn ts [] exB
def ob (s : PySem.W.SharedT) : He.AlX := He.obsX 6 fa fn ts [] exB (HandSHeadRun.getT s)
theorem ob_eq (s : PySem.W.SharedT) : ob s = hk.obs s.abs := He.obsX_eq (HandSHeadRun.getT_eq s)
end K84

/-! part K84H -/
set_option maxHeartbeats 0
/-! K84H: the head's run. -/
namespace K84
open PySem PySem.Spec PyProof.Rows L2
theorem run0 (w : World) : HandSHeadRun.RunEq R (PySem.W.view R.prog [69]) hk ob 4000 loose (w.withFollow "special-get-raises" false) := by
  intro os
  kernel_rfl
theorem run1 (w : World) : HandSHeadRun.RunEq R (PySem.W.view R.prog [69]) hk ob 4000 loose (w.withFollow "special-get-raises" true) := by
  intro os
  kernel_rfl
theorem run (w : World) : HandSHeadRun.RunEq R (PySem.W.view R.prog [69]) hk ob 4000 loose w := PySem.W.byRow2 "special-get-raises" run0 run1 w
end K84

/-! part K84H2 -/
set_option maxHeartbeats 0
/-! K84H2: what is left behind the head. -/
namespace K84
open PySem PySem.W PySem.Calls PyProof.Rows
theorem head_all (call : WalkO (view R.prog [69]) loose (XL (view R.prog [69]) []) hk.says R.toRowW (HandSHeadRun.topDef R.prog 69) [] fun f vs => PySem.call f vs) : PySem.Challenge.rw_holdword_k84_whole_any_words.Holds := by
  w_on; o_law
  refine HandSHeadRun.head_any (r := R) (q := view R.prog [69]) (H := hk) (ob := ob) (M := 4000) (loose := loose) (d := HandSHeadRun.topDef R.prog 69) (kwd := []) ob_eq
    (by kernel_rfl) (fun s => by kernel_rfl) run (by kernel_rfl) (by kernel_rfl) (by kernel_rfl) (by rfl) (by first | assumption | decide +kernel) (by decide +kernel) ⟨rfl, rfl, rfl, rfl, rfl, by decide +kernel⟩ ?hw call
  case hw => w_witness2
theorem top_name : (HandSHeadRun.topDef R.prog 69).name = ("law" : PySem.Str) := by kernel_rfl
theorem top_defaults : (HandSHeadRun.topDef R.prog 69).params.defaults = [] := by kernel_rfl
end K84

/-! part K84N -/
set_option maxHeartbeats 2000000
/-! K84N: what the head told, by names; calls. -/
namespace K84
open PySem PySem.Spec PyProof.Rows L2
/-- the world of the defs -/
structure Wd (w : World) (K : PySem.W.Frag) (mg : Str → Option Value) : Prop where
  ex : ∃ h : Heap, K.In h ∧ h.Ns mainGlobals mg ∧ He.SaysX fa fn ts [] exB w h K
section
variable {w : World} {K : PySem.W.Frag} {mg : Str → Option Value}
theorem Wd.s_LETTERS (W : Wd w K mg) : ∃ u, mg "LETTERS" = some u ∧ RelV (.str "abcdefghijklmnopqrstuvwxyz") u := let ⟨_, X, G, c⟩ := W.ex; let ⟨t, e⟩ := He.str_ok X G (c.t.d.fact 0 (f := .str "LETTERS" "abcdefghijklmnopqrstuvwxyz") rfl); ⟨_, e, t, rfl⟩
theorem Wd.i_LONGEST (W : Wd w K mg) : ∃ u, mg "LONGEST" = some u ∧ RelV (.int 12) u := let ⟨_, X, G, c⟩ := W.ex; let ⟨t, e⟩ := He.int_ok X G (c.t.d.fact 1 (f := .int "LONGEST" 12) rfl); ⟨_, e, t, rfl⟩
theorem Wd.g_is_number (W : Wd w K mg) : mg "is_number" = some (.ref (He.ga K "is_number")) := let ⟨_, X, G, c⟩ := W.ex; He.glo_ok X G (c.t.d.fact 2 (f := .glo "is_number") rfl)
theorem Wd.g_is_word (W : Wd w K mg) : mg "is_word" = some (.ref (He.ga K "is_word")) := let ⟨_, X, G, c⟩ := W.ex; He.glo_ok X G (c.t.d.fact 3 (f := .glo "is_word") rfl)
theorem Wd.i_MOST_CLAUSE_claims (W : Wd w K mg) : ∃ u, mg "MOST_CLAUSE_claims" = some u ∧ RelV (.int 11) u := let ⟨_, X, G, c⟩ := W.ex; let ⟨t, e⟩ := He.int_ok X G (c.t.d.fact 4 (f := .int "MOST_CLAUSE_claims" 11) rfl); ⟨_, e, t, rfl⟩
theorem Wd.g_SHAPES (W : Wd w K mg) : mg "SHAPES" = some (.ref (He.ga K "SHAPES")) := let ⟨_, X, G, c⟩ := W.ex; He.glo_ok X G (c.t.d.fact 5 (f := .glo "SHAPES") rfl)
theorem Wd.g_is_whole (W : Wd w K mg) : mg "is_whole" = some (.ref (He.ga K "is_whole")) := let ⟨_, X, G, c⟩ := W.ex; He.glo_ok X G (c.t.d.fact 6 (f := .glo "is_whole") rfl)
theorem Wd.g_is_name (W : Wd w K mg) : mg "is_name" = some (.ref (He.ga K "is_name")) := let ⟨_, X, G, c⟩ := W.ex; He.glo_ok X G (c.t.d.fact 7 (f := .glo "is_name") rfl)
theorem Wd.g_is_name_claims (W : Wd w K mg) : mg "is_name_claims" = some (.ref (He.ga K "is_name_claims")) := let ⟨_, X, G, c⟩ := W.ex; He.glo_ok X G (c.t.d.fact 8 (f := .glo "is_name_claims") rfl)
theorem Wd.g_is_sort (W : Wd w K mg) : mg "is_sort" = some (.ref (He.ga K "is_sort")) := let ⟨_, X, G, c⟩ := W.ex; He.glo_ok X G (c.t.d.fact 9 (f := .glo "is_sort") rfl)
theorem Wd.g_is_claim (W : Wd w K mg) : mg "is_claim" = some (.ref (He.ga K "is_claim")) := let ⟨_, X, G, c⟩ := W.ex; He.glo_ok X G (c.t.d.fact 10 (f := .glo "is_claim") rfl)
theorem Wd.g_HoldError (W : Wd w K mg) : mg "HoldError" = some (.ref (He.ga K "HoldError")) := let ⟨_, X, G, c⟩ := W.ex; He.glo_ok X G (c.t.d.fact 11 (f := .glo "HoldError") rfl)
theorem Wd.g_NoTown (W : Wd w K mg) : mg "NoTown" = some (.ref (He.ga K "NoTown")) := let ⟨_, X, G, c⟩ := W.ex; He.glo_ok X G (c.t.d.fact 12 (f := .glo "NoTown") rfl)
theorem Wd.g_NoPile (W : Wd w K mg) : mg "NoPile" = some (.ref (He.ga K "NoPile")) := let ⟨_, X, G, c⟩ := W.ex; He.glo_ok X G (c.t.d.fact 13 (f := .glo "NoPile") rfl)
theorem Wd.g_NoLetter (W : Wd w K mg) : mg "NoLetter" = some (.ref (He.ga K "NoLetter")) := let ⟨_, X, G, c⟩ := W.ex; He.glo_ok X G (c.t.d.fact 14 (f := .glo "NoLetter") rfl)
theorem Wd.g_NoRow (W : Wd w K mg) : mg "NoRow" = some (.ref (He.ga K "NoRow")) := let ⟨_, X, G, c⟩ := W.ex; He.glo_ok X G (c.t.d.fact 15 (f := .glo "NoRow") rfl)
theorem Wd.i_MOST_GOTS (W : Wd w K mg) : ∃ u, mg "MOST_GOTS" = some u ∧ RelV (.int 30) u := let ⟨_, X, G, c⟩ := W.ex; let ⟨t, e⟩ := He.int_ok X G (c.t.d.fact 16 (f := .int "MOST_GOTS" 30) rfl); ⟨_, e, t, rfl⟩
theorem Wd.i_MOST_CLAUSE_letters (W : Wd w K mg) : ∃ u, mg "MOST_CLAUSE_letters" = some u ∧ RelV (.int 11) u := let ⟨_, X, G, c⟩ := W.ex; let ⟨t, e⟩ := He.int_ok X G (c.t.d.fact 17 (f := .int "MOST_CLAUSE_letters" 11) rfl); ⟨_, e, t, rfl⟩
theorem Wd.i_MOST_PART (W : Wd w K mg) : ∃ u, mg "MOST_PART" = some u ∧ RelV (.int 8) u := let ⟨_, X, G, c⟩ := W.ex; let ⟨t, e⟩ := He.int_ok X G (c.t.d.fact 18 (f := .int "MOST_PART" 8) rfl); ⟨_, e, t, rfl⟩
theorem Wd.g_CLAUSE_DEEDS (W : Wd w K mg) : mg "CLAUSE_DEEDS" = some (.ref (He.ga K "CLAUSE_DEEDS")) := let ⟨_, X, G, c⟩ := W.ex; He.glo_ok X G (c.t.d.fact 19 (f := .glo "CLAUSE_DEEDS") rfl)
theorem Wd.g_is_house (W : Wd w K mg) : mg "is_house" = some (.ref (He.ga K "is_house")) := let ⟨_, X, G, c⟩ := W.ex; He.glo_ok X G (c.t.d.fact 20 (f := .glo "is_house") rfl)
theorem Wd.g_is_clause (W : Wd w K mg) : mg "is_clause" = some (.ref (He.ga K "is_clause")) := let ⟨_, X, G, c⟩ := W.ex; He.glo_ok X G (c.t.d.fact 21 (f := .glo "is_clause") rfl)
theorem Wd.g_is_deed (W : Wd w K mg) : mg "is_deed" = some (.ref (He.ga K "is_deed")) := let ⟨_, X, G, c⟩ := W.ex; He.glo_ok X G (c.t.d.fact 22 (f := .glo "is_deed") rfl)
theorem Wd.g_is_name_letters (W : Wd w K mg) : mg "is_name_letters" = some (.ref (He.ga K "is_name_letters")) := let ⟨_, X, G, c⟩ := W.ex; He.glo_ok X G (c.t.d.fact 23 (f := .glo "is_name_letters") rfl)
theorem Wd.g_are_gots (W : Wd w K mg) : mg "are_gots" = some (.ref (He.ga K "are_gots")) := let ⟨_, X, G, c⟩ := W.ex; He.glo_ok X G (c.t.d.fact 24 (f := .glo "are_gots") rfl)
theorem Wd.g_is_letter (W : Wd w K mg) : mg "is_letter" = some (.ref (He.ga K "is_letter")) := let ⟨_, X, G, c⟩ := W.ex; He.glo_ok X G (c.t.d.fact 25 (f := .glo "is_letter") rfl)
theorem Wd.s_FIGURES (W : Wd w K mg) : ∃ u, mg "FIGURES" = some u ∧ RelV (.str "0123456789") u := let ⟨_, X, G, c⟩ := W.ex; let ⟨t, e⟩ := He.str_ok X G (c.t.d.fact 26 (f := .str "FIGURES" "0123456789") rfl); ⟨_, e, t, rfl⟩
theorem Wd.g_name_text (W : Wd w K mg) : mg "name_text" = some (.ref (He.ga K "name_text")) := let ⟨_, X, G, c⟩ := W.ex; He.glo_ok X G (c.t.d.fact 27 (f := .glo "name_text") rfl)
theorem Wd.g_deed_words (W : Wd w K mg) : mg "deed_words" = some (.ref (He.ga K "deed_words")) := let ⟨_, X, G, c⟩ := W.ex; He.glo_ok X G (c.t.d.fact 28 (f := .glo "deed_words") rfl)
theorem Wd.g_shown_letter (W : Wd w K mg) : mg "shown_letter" = some (.ref (He.ga K "shown_letter")) := let ⟨_, X, G, c⟩ := W.ex; He.glo_ok X G (c.t.d.fact 29 (f := .glo "shown_letter") rfl)
theorem Wd.g_shown_claim (W : Wd w K mg) : mg "shown_claim" = some (.ref (He.ga K "shown_claim")) := let ⟨_, X, G, c⟩ := W.ex; He.glo_ok X G (c.t.d.fact 30 (f := .glo "shown_claim") rfl)
theorem Wd.g_words_of (W : Wd w K mg) : mg "words_of" = some (.ref (He.ga K "words_of")) := let ⟨_, X, G, c⟩ := W.ex; He.glo_ok X G (c.t.d.fact 31 (f := .glo "words_of") rfl)
theorem Wd.g_number_of (W : Wd w K mg) : mg "number_of" = some (.ref (He.ga K "number_of")) := let ⟨_, X, G, c⟩ := W.ex; He.glo_ok X G (c.t.d.fact 32 (f := .glo "number_of") rfl)
theorem Wd.g_name_of_text (W : Wd w K mg) : mg "name_of_text" = some (.ref (He.ga K "name_of_text")) := let ⟨_, X, G, c⟩ := W.ex; He.glo_ok X G (c.t.d.fact 33 (f := .glo "name_of_text") rfl)
theorem Wd.g_deed_of (W : Wd w K mg) : mg "deed_of" = some (.ref (He.ga K "deed_of")) := let ⟨_, X, G, c⟩ := W.ex; He.glo_ok X G (c.t.d.fact 34 (f := .glo "deed_of") rfl)
theorem Wd.g_Words (W : Wd w K mg) : mg "Words" = some (.ref (He.ga K "Words")) := let ⟨_, X, G, c⟩ := W.ex; He.glo_ok X G (c.t.d.fact 35 (f := .glo "Words") rfl)
theorem Wd.g_read_letter (W : Wd w K mg) : mg "read_letter" = some (.ref (He.ga K "read_letter")) := let ⟨_, X, G, c⟩ := W.ex; He.glo_ok X G (c.t.d.fact 36 (f := .glo "read_letter") rfl)
theorem Wd.g_claim_part (W : Wd w K mg) : mg "claim_part" = some (.ref (He.ga K "claim_part")) := let ⟨_, X, G, c⟩ := W.ex; He.glo_ok X G (c.t.d.fact 37 (f := .glo "claim_part") rfl)
theorem Wd.g_read_claim (W : Wd w K mg) : mg "read_claim" = some (.ref (He.ga K "read_claim")) := let ⟨_, X, G, c⟩ := W.ex; He.glo_ok X G (c.t.d.fact 38 (f := .glo "read_claim") rfl)
theorem Wd.g_law_cell_at (W : Wd w K mg) : mg "_law_cell_at" = some (.ref (He.ga K "_law_cell_at")) := let ⟨_, X, G, c⟩ := W.ex; He.glo_ok X G (c.t.d.fact 39 (f := .glo "_law_cell_at") rfl)
theorem Wd.g_law_left (W : Wd w K mg) : mg "_law_left" = some (.ref (He.ga K "_law_left")) := let ⟨_, X, G, c⟩ := W.ex; He.glo_ok X G (c.t.d.fact 40 (f := .glo "_law_left") rfl)
theorem Wd.g_law_pick (W : Wd w K mg) : mg "_law_pick" = some (.ref (He.ga K "_law_pick")) := let ⟨_, X, G, c⟩ := W.ex; He.glo_ok X G (c.t.d.fact 41 (f := .glo "_law_pick") rfl)
theorem Wd.g_law_number (W : Wd w K mg) : mg "_law_number" = some (.ref (He.ga K "_law_number")) := let ⟨_, X, G, c⟩ := W.ex; He.glo_ok X G (c.t.d.fact 42 (f := .glo "_law_number") rfl)
theorem Wd.g_law_word (W : Wd w K mg) : mg "_law_word" = some (.ref (He.ga K "_law_word")) := let ⟨_, X, G, c⟩ := W.ex; He.glo_ok X G (c.t.d.fact 43 (f := .glo "_law_word") rfl)
theorem Wd.g_law_name (W : Wd w K mg) : mg "_law_name" = some (.ref (He.ga K "_law_name")) := let ⟨_, X, G, c⟩ := W.ex; He.glo_ok X G (c.t.d.fact 44 (f := .glo "_law_name") rfl)
theorem Wd.g_law_deed (W : Wd w K mg) : mg "_law_deed" = some (.ref (He.ga K "_law_deed")) := let ⟨_, X, G, c⟩ := W.ex; He.glo_ok X G (c.t.d.fact 45 (f := .glo "_law_deed") rfl)
theorem Wd.g_law_letter (W : Wd w K mg) : mg "_law_letter" = some (.ref (He.ga K "_law_letter")) := let ⟨_, X, G, c⟩ := W.ex; He.glo_ok X G (c.t.d.fact 46 (f := .glo "_law_letter") rfl)
theorem Wd.g_law_name_text (W : Wd w K mg) : mg "_law_name_text" = some (.ref (He.ga K "_law_name_text")) := let ⟨_, X, G, c⟩ := W.ex; He.glo_ok X G (c.t.d.fact 47 (f := .glo "_law_name_text") rfl)
theorem Wd.g_law_letter_words (W : Wd w K mg) : mg "_law_letter_words" = some (.ref (He.ga K "_law_letter_words")) := let ⟨_, X, G, c⟩ := W.ex; He.glo_ok X G (c.t.d.fact 48 (f := .glo "_law_letter_words") rfl)
theorem Wd.g_law_claim (W : Wd w K mg) : mg "_law_claim" = some (.ref (He.ga K "_law_claim")) := let ⟨_, X, G, c⟩ := W.ex; He.glo_ok X G (c.t.d.fact 49 (f := .glo "_law_claim") rfl)
theorem Wd.g_law_claim_words (W : Wd w K mg) : mg "_law_claim_words" = some (.ref (He.ga K "_law_claim_words")) := let ⟨_, X, G, c⟩ := W.ex; He.glo_ok X G (c.t.d.fact 50 (f := .glo "_law_claim_words") rfl)
theorem Wd.g_law_text (W : Wd w K mg) : mg "_law_text" = some (.ref (He.ga K "_law_text")) := let ⟨_, X, G, c⟩ := W.ex; He.glo_ok X G (c.t.d.fact 51 (f := .glo "_law_text") rfl)
theorem Wd.g_law_told (W : Wd w K mg) : mg "_law_told" = some (.ref (He.ga K "_law_told")) := let ⟨_, X, G, c⟩ := W.ex; He.glo_ok X G (c.t.d.fact 52 (f := .glo "_law_told") rfl)
theorem Wd.g_law_same (W : Wd w K mg) : mg "_law_same" = some (.ref (He.ga K "_law_same")) := let ⟨_, X, G, c⟩ := W.ex; He.glo_ok X G (c.t.d.fact 53 (f := .glo "_law_same") rfl)
theorem Wd.g_law_called (W : Wd w K mg) : mg "_law_called" = some (.ref (He.ga K "_law_called")) := let ⟨_, X, G, c⟩ := W.ex; He.glo_ok X G (c.t.d.fact 54 (f := .glo "_law_called") rfl)
theorem Wd.g_law_whole (W : Wd w K mg) : mg "_law_whole" = some (.ref (He.ga K "_law_whole")) := let ⟨_, X, G, c⟩ := W.ex; He.glo_ok X G (c.t.d.fact 55 (f := .glo "_law_whole") rfl)
theorem Wd.g_law_named (W : Wd w K mg) : mg "_law_named" = some (.ref (He.ga K "_law_named")) := let ⟨_, X, G, c⟩ := W.ex; He.glo_ok X G (c.t.d.fact 56 (f := .glo "_law_named") rfl)
theorem Wd.g_law_done (W : Wd w K mg) : mg "_law_done" = some (.ref (He.ga K "_law_done")) := let ⟨_, X, G, c⟩ := W.ex; He.glo_ok X G (c.t.d.fact 57 (f := .glo "_law_done") rfl)
theorem Wd.g_law_due (W : Wd w K mg) : mg "_law_due" = some (.ref (He.ga K "_law_due")) := let ⟨_, X, G, c⟩ := W.ex; He.glo_ok X G (c.t.d.fact 58 (f := .glo "_law_due") rfl)
theorem Wd.g_law_claim_due (W : Wd w K mg) : mg "_law_claim_due" = some (.ref (He.ga K "_law_claim_due")) := let ⟨_, X, G, c⟩ := W.ex; He.glo_ok X G (c.t.d.fact 59 (f := .glo "_law_claim_due") rfl)
theorem Wd.g_law_changed (W : Wd w K mg) : mg "_law_changed" = some (.ref (He.ga K "_law_changed")) := let ⟨_, X, G, c⟩ := W.ex; He.glo_ok X G (c.t.d.fact 60 (f := .glo "_law_changed") rfl)
theorem Wd.g_law_right (W : Wd w K mg) : mg "_law_right" = some (.ref (He.ga K "_law_right")) := let ⟨_, X, G, c⟩ := W.ex; He.glo_ok X G (c.t.d.fact 61 (f := .glo "_law_right") rfl)
theorem Wd.g_law (W : Wd w K mg) : mg "law" = some (.ref (He.ga K "law")) := let ⟨_, X, G, c⟩ := W.ex; He.glo_ok X G (c.t.d.fact 62 (f := .glo "law") rfl)
theorem Wd.f_isinstance (W : Wd w K mg) : mg "isinstance" = none := let ⟨_, X, G, c⟩ := W.ex; He.free_ok X G (c.t.d.fact 63 (f := .free "isinstance") rfl)
theorem Wd.f_int (W : Wd w K mg) : mg "int" = none := let ⟨_, X, G, c⟩ := W.ex; He.free_ok X G (c.t.d.fact 64 (f := .free "int") rfl)
theorem Wd.f_bool (W : Wd w K mg) : mg "bool" = none := let ⟨_, X, G, c⟩ := W.ex; He.free_ok X G (c.t.d.fact 65 (f := .free "bool") rfl)
theorem Wd.f_str (W : Wd w K mg) : mg "str" = none := let ⟨_, X, G, c⟩ := W.ex; He.free_ok X G (c.t.d.fact 66 (f := .free "str") rfl)
theorem Wd.f_tuple (W : Wd w K mg) : mg "tuple" = none := let ⟨_, X, G, c⟩ := W.ex; He.free_ok X G (c.t.d.fact 67 (f := .free "tuple") rfl)
theorem Wd.f_len (W : Wd w K mg) : mg "len" = none := let ⟨_, X, G, c⟩ := W.ex; He.free_ok X G (c.t.d.fact 68 (f := .free "len") rfl)
theorem Wd.f_all (W : Wd w K mg) : mg "all" = none := let ⟨_, X, G, c⟩ := W.ex; He.free_ok X G (c.t.d.fact 69 (f := .free "all") rfl)
theorem Wd.f_range (W : Wd w K mg) : mg "range" = none := let ⟨_, X, G, c⟩ := W.ex; He.free_ok X G (c.t.d.fact 70 (f := .free "range") rfl)
theorem Wd.f_zip (W : Wd w K mg) : mg "zip" = none := let ⟨_, X, G, c⟩ := W.ex; He.free_ok X G (c.t.d.fact 71 (f := .free "zip") rfl)
theorem Wd.f_enumerate (W : Wd w K mg) : mg "enumerate" = none := let ⟨_, X, G, c⟩ := W.ex; He.free_ok X G (c.t.d.fact 72 (f := .free "enumerate") rfl)
theorem Wd.f_sorted (W : Wd w K mg) : mg "sorted" = none := let ⟨_, X, G, c⟩ := W.ex; He.free_ok X G (c.t.d.fact 73 (f := .free "sorted") rfl)
theorem Wd.f_min (W : Wd w K mg) : mg "min" = none := let ⟨_, X, G, c⟩ := W.ex; He.free_ok X G (c.t.d.fact 74 (f := .free "min") rfl)
theorem Wd.f_max (W : Wd w K mg) : mg "max" = none := let ⟨_, X, G, c⟩ := W.ex; He.free_ok X G (c.t.d.fact 75 (f := .free "max") rfl)
theorem Wd.f_list (W : Wd w K mg) : mg "list" = none := let ⟨_, X, G, c⟩ := W.ex; He.free_ok X G (c.t.d.fact 76 (f := .free "list") rfl)
theorem Wd.f_ValueError (W : Wd w K mg) : mg "ValueError" = none := let ⟨_, X, G, c⟩ := W.ex; He.free_ok X G (c.t.d.fact 77 (f := .free "ValueError") rfl)
theorem Wd.cls_Words (W : Wd w K mg) : Cls K (He.ga K "Words") := let ⟨_, X, G, c⟩ := W.ex; He.cls_ok (c.t.d.fact 78 (f := .cls "Words") rfl)
theorem Wd.mk_Words (W : Wd w K mg) : Mk K (He.ga K "Words") (He.ma K (He.ga K "Words") "__init__") := let ⟨_, X, G, c⟩ := W.ex; He.mkr_ok (c.t.d.fact 79 (f := .mkr "Words") rfl)
theorem Wd.na_words (W : Wd w K mg) : NoAttr K (He.ga K "Words") "words" := let ⟨_, X, G, c⟩ := W.ex; He.noat_ok (c.t.d.fact 80 (f := .noat "Words" "words") rfl)
theorem Wd.na_at (W : Wd w K mg) : NoAttr K (He.ga K "Words") "at" := let ⟨_, X, G, c⟩ := W.ex; He.noat_ok (c.t.d.fact 81 (f := .noat "Words" "at") rfl)
theorem Wd.m_peek (W : Wd w K mg) : Meth K (He.ga K "Words") "peek" (He.ma K (He.ga K "Words") "peek") := let ⟨_, X, G, c⟩ := W.ex; He.meth_ok (c.t.d.fact 82 (f := .meth "Words" "peek") rfl)
theorem Wd.m_take (W : Wd w K mg) : Meth K (He.ga K "Words") "take" (He.ma K (He.ga K "Words") "take") := let ⟨_, X, G, c⟩ := W.ex; He.meth_ok (c.t.d.fact 83 (f := .meth "Words" "take") rfl)
theorem Wd.m_take_prev (W : Wd w K mg) : Meth K (He.ga K "Words") "take_prev" (He.ma K (He.ga K "Words") "take_prev") := let ⟨_, X, G, c⟩ := W.ex; He.meth_ok (c.t.d.fact 84 (f := .meth "Words" "take_prev") rfl)
theorem Wd.m_take_gots (W : Wd w K mg) : Meth K (He.ga K "Words") "take_gots" (He.ma K (He.ga K "Words") "take_gots") := let ⟨_, X, G, c⟩ := W.ex; He.meth_ok (c.t.d.fact 85 (f := .meth "Words" "take_gots") rfl)
theorem Wd.m_take_time (W : Wd w K mg) : Meth K (He.ga K "Words") "take_time" (He.ma K (He.ga K "Words") "take_time") := let ⟨_, X, G, c⟩ := W.ex; He.meth_ok (c.t.d.fact 86 (f := .meth "Words" "take_time") rfl)
theorem Wd.fd_is_number (W : Wd w K mg) : ∃ fd, FunD K "is_number" "is_number" (defArgs s_is_number) (defBody s_is_number) (defScope s_is_number) [] [] (He.ga K "is_number") fd := let ⟨_, X, G, c⟩ := W.ex; c.t.d.def_ 0 (d := K84.d_is_number) rfl
theorem Wd.fd_is_word (W : Wd w K mg) : ∃ fd, FunD K "is_word" "is_word" (defArgs s_is_word) (defBody s_is_word) (defScope s_is_word) [] [] (He.ga K "is_word") fd := let ⟨_, X, G, c⟩ := W.ex; c.t.d.def_ 1 (d := K84.d_is_word) rfl
theorem Wd.fd_is_whole (W : Wd w K mg) : ∃ fd, FunD K "is_whole" "is_whole" (defArgs s_is_whole) (defBody s_is_whole) (defScope s_is_whole) [] [] (He.ga K "is_whole") fd := let ⟨_, X, G, c⟩ := W.ex; c.t.d.def_ 2 (d := K84.d_is_whole) rfl
theorem Wd.fd_is_name_claims (W : Wd w K mg) : ∃ fd, FunD K "is_name" "is_name" (defArgs s_is_name_claims) (defBody s_is_name_claims) (defScope s_is_name_claims) [] [] (He.ga K "is_name_claims") fd := let ⟨_, X, G, c⟩ := W.ex; c.t.d.def_ 3 (d := K84.d_is_name_claims) rfl
theorem Wd.fd_is_sort (W : Wd w K mg) : ∃ fd, FunD K "is_sort" "is_sort" (defArgs s_is_sort) (defBody s_is_sort) (defScope s_is_sort) [] [] (He.ga K "is_sort") fd := let ⟨_, X, G, c⟩ := W.ex; c.t.d.def_ 4 (d := K84.d_is_sort) rfl
theorem Wd.fd_is_claim (W : Wd w K mg) : ∃ fd, FunD K "is_claim" "is_claim" (defArgs s_is_claim) (defBody s_is_claim) (defScope s_is_claim) [] [] (He.ga K "is_claim") fd := let ⟨_, X, G, c⟩ := W.ex; c.t.d.def_ 5 (d := K84.d_is_claim) rfl
theorem Wd.fd_HoldError_init (W : Wd w K mg) : ∃ fd, FunD K "__init__" "HoldError.__init__" (defArgs s_HoldError_init) (defBody s_HoldError_init) (defScope s_HoldError_init) [.non] [] (He.ma K (He.ga K "HoldError") "__init__") fd := let ⟨_, X, G, c⟩ := W.ex; c.t.d.def_ 6 (d := K84.d_HoldError_init) rfl
theorem Wd.fd_is_house (W : Wd w K mg) : ∃ fd, FunD K "is_house" "is_house" (defArgs s_is_house) (defBody s_is_house) (defScope s_is_house) [] [] (He.ga K "is_house") fd := let ⟨_, X, G, c⟩ := W.ex; c.t.d.def_ 7 (d := K84.d_is_house) rfl
theorem Wd.fd_is_clause (W : Wd w K mg) : ∃ fd, FunD K "is_clause" "is_clause" (defArgs s_is_clause) (defBody s_is_clause) (defScope s_is_clause) [] [] (He.ga K "is_clause") fd := let ⟨_, X, G, c⟩ := W.ex; c.t.d.def_ 8 (d := K84.d_is_clause) rfl
theorem Wd.fd_is_deed (W : Wd w K mg) : ∃ fd, FunD K "is_deed" "is_deed" (defArgs s_is_deed) (defBody s_is_deed) (defScope s_is_deed) [] [] (He.ga K "is_deed") fd := let ⟨_, X, G, c⟩ := W.ex; c.t.d.def_ 9 (d := K84.d_is_deed) rfl
theorem Wd.fd_is_name_letters (W : Wd w K mg) : ∃ fd, FunD K "is_name" "is_name" (defArgs s_is_name_letters) (defBody s_is_name_letters) (defScope s_is_name_letters) [] [] (He.ga K "is_name_letters") fd := let ⟨_, X, G, c⟩ := W.ex; c.t.d.def_ 10 (d := K84.d_is_name_letters) rfl
theorem Wd.fd_are_gots (W : Wd w K mg) : ∃ fd, FunD K "are_gots" "are_gots" (defArgs s_are_gots) (defBody s_are_gots) (defScope s_are_gots) [] [] (He.ga K "are_gots") fd := let ⟨_, X, G, c⟩ := W.ex; c.t.d.def_ 11 (d := K84.d_are_gots) rfl
theorem Wd.fd_is_letter (W : Wd w K mg) : ∃ fd, FunD K "is_letter" "is_letter" (defArgs s_is_letter) (defBody s_is_letter) (defScope s_is_letter) [] [] (He.ga K "is_letter") fd := let ⟨_, X, G, c⟩ := W.ex; c.t.d.def_ 12 (d := K84.d_is_letter) rfl
theorem Wd.fd_name_text (W : Wd w K mg) : ∃ fd, FunD K "name_text" "name_text" (defArgs s_name_text) (defBody s_name_text) (defScope s_name_text) [] [] (He.ga K "name_text") fd := let ⟨_, X, G, c⟩ := W.ex; c.t.d.def_ 13 (d := K84.d_name_text) rfl
theorem Wd.fd_deed_words (W : Wd w K mg) : ∃ fd, FunD K "deed_words" "deed_words" (defArgs s_deed_words) (defBody s_deed_words) (defScope s_deed_words) [] [] (He.ga K "deed_words") fd := let ⟨_, X, G, c⟩ := W.ex; c.t.d.def_ 14 (d := K84.d_deed_words) rfl
theorem Wd.fd_shown_letter (W : Wd w K mg) : ∃ fd, FunD K "shown_letter" "shown_letter" (defArgs s_shown_letter) (defBody s_shown_letter) (defScope s_shown_letter) [] [] (He.ga K "shown_letter") fd := let ⟨_, X, G, c⟩ := W.ex; c.t.d.def_ 15 (d := K84.d_shown_letter) rfl
theorem Wd.fd_shown_claim (W : Wd w K mg) : ∃ fd, FunD K "shown_claim" "shown_claim" (defArgs s_shown_claim) (defBody s_shown_claim) (defScope s_shown_claim) [] [] (He.ga K "shown_claim") fd := let ⟨_, X, G, c⟩ := W.ex; c.t.d.def_ 16 (d := K84.d_shown_claim) rfl
theorem Wd.fd_words_of (W : Wd w K mg) : ∃ fd, FunD K "words_of" "words_of" (defArgs s_words_of) (defBody s_words_of) (defScope s_words_of) [] [] (He.ga K "words_of") fd := let ⟨_, X, G, c⟩ := W.ex; c.t.d.def_ 17 (d := K84.d_words_of) rfl
theorem Wd.fd_number_of (W : Wd w K mg) : ∃ fd, FunD K "number_of" "number_of" (defArgs s_number_of) (defBody s_number_of) (defScope s_number_of) [] [] (He.ga K "number_of") fd := let ⟨_, X, G, c⟩ := W.ex; c.t.d.def_ 18 (d := K84.d_number_of) rfl
theorem Wd.fd_name_of_text (W : Wd w K mg) : ∃ fd, FunD K "name_of_text" "name_of_text" (defArgs s_name_of_text) (defBody s_name_of_text) (defScope s_name_of_text) [] [] (He.ga K "name_of_text") fd := let ⟨_, X, G, c⟩ := W.ex; c.t.d.def_ 19 (d := K84.d_name_of_text) rfl
theorem Wd.fd_deed_of (W : Wd w K mg) : ∃ fd, FunD K "deed_of" "deed_of" (defArgs s_deed_of) (defBody s_deed_of) (defScope s_deed_of) [] [] (He.ga K "deed_of") fd := let ⟨_, X, G, c⟩ := W.ex; c.t.d.def_ 20 (d := K84.d_deed_of) rfl
theorem Wd.fd_Words_init (W : Wd w K mg) : ∃ fd, FunD K "__init__" "Words.__init__" (defArgs s_Words_init) (defBody s_Words_init) (defScope s_Words_init) [] [] (He.ma K (He.ga K "Words") "__init__") fd := let ⟨_, X, G, c⟩ := W.ex; c.t.d.def_ 21 (d := K84.d_Words_init) rfl
theorem Wd.fd_Words_peek (W : Wd w K mg) : ∃ fd, FunD K "peek" "Words.peek" (defArgs s_Words_peek) (defBody s_Words_peek) (defScope s_Words_peek) [] [] (He.ma K (He.ga K "Words") "peek") fd := let ⟨_, X, G, c⟩ := W.ex; c.t.d.def_ 22 (d := K84.d_Words_peek) rfl
theorem Wd.fd_Words_take (W : Wd w K mg) : ∃ fd, FunD K "take" "Words.take" (defArgs s_Words_take) (defBody s_Words_take) (defScope s_Words_take) [] [] (He.ma K (He.ga K "Words") "take") fd := let ⟨_, X, G, c⟩ := W.ex; c.t.d.def_ 23 (d := K84.d_Words_take) rfl
theorem Wd.fd_Words_take_prev (W : Wd w K mg) : ∃ fd, FunD K "take_prev" "Words.take_prev" (defArgs s_Words_take_prev) (defBody s_Words_take_prev) (defScope s_Words_take_prev) [] [] (He.ma K (He.ga K "Words") "take_prev") fd := let ⟨_, X, G, c⟩ := W.ex; c.t.d.def_ 24 (d := K84.d_Words_take_prev) rfl
theorem Wd.fd_Words_take_gots (W : Wd w K mg) : ∃ fd, FunD K "take_gots" "Words.take_gots" (defArgs s_Words_take_gots) (defBody s_Words_take_gots) (defScope s_Words_take_gots) [] [] (He.ma K (He.ga K "Words") "take_gots") fd := let ⟨_, X, G, c⟩ := W.ex; c.t.d.def_ 25 (d := K84.d_Words_take_gots) rfl
theorem Wd.fd_Words_take_time (W : Wd w K mg) : ∃ fd, FunD K "take_time" "Words.take_time" (defArgs s_Words_take_time) (defBody s_Words_take_time) (defScope s_Words_take_time) [] [] (He.ma K (He.ga K "Words") "take_time") fd := let ⟨_, X, G, c⟩ := W.ex; c.t.d.def_ 26 (d := K84.d_Words_take_time) rfl
theorem Wd.fd_read_letter (W : Wd w K mg) : ∃ fd, FunD K "read_letter" "read_letter" (defArgs s_read_letter) (defBody s_read_letter) (defScope s_read_letter) [] [] (He.ga K "read_letter") fd := let ⟨_, X, G, c⟩ := W.ex; c.t.d.def_ 27 (d := K84.d_read_letter) rfl
theorem Wd.fd_claim_part (W : Wd w K mg) : ∃ fd, FunD K "claim_part" "claim_part" (defArgs s_claim_part) (defBody s_claim_part) (defScope s_claim_part) [] [] (He.ga K "claim_part") fd := let ⟨_, X, G, c⟩ := W.ex; c.t.d.def_ 28 (d := K84.d_claim_part) rfl
theorem Wd.fd_read_claim (W : Wd w K mg) : ∃ fd, FunD K "read_claim" "read_claim" (defArgs s_read_claim) (defBody s_read_claim) (defScope s_read_claim) [] [] (He.ga K "read_claim") fd := let ⟨_, X, G, c⟩ := W.ex; c.t.d.def_ 29 (d := K84.d_read_claim) rfl
theorem Wd.fd_law_cell_at (W : Wd w K mg) : ∃ fd, FunD K "_law_cell_at" "_law_cell_at" (defArgs s_law_cell_at) (defBody s_law_cell_at) (defScope s_law_cell_at) [] [] (He.ga K "_law_cell_at") fd := let ⟨_, X, G, c⟩ := W.ex; c.t.d.def_ 30 (d := K84.d_law_cell_at) rfl
theorem Wd.fd_law_left (W : Wd w K mg) : ∃ fd, FunD K "_law_left" "_law_left" (defArgs s_law_left) (defBody s_law_left) (defScope s_law_left) [] [] (He.ga K "_law_left") fd := let ⟨_, X, G, c⟩ := W.ex; c.t.d.def_ 31 (d := K84.d_law_left) rfl
theorem Wd.fd_law_pick (W : Wd w K mg) : ∃ fd, FunD K "_law_pick" "_law_pick" (defArgs s_law_pick) (defBody s_law_pick) (defScope s_law_pick) [] [] (He.ga K "_law_pick") fd := let ⟨_, X, G, c⟩ := W.ex; c.t.d.def_ 32 (d := K84.d_law_pick) rfl
theorem Wd.fd_law_number (W : Wd w K mg) : ∃ fd, FunD K "_law_number" "_law_number" (defArgs s_law_number) (defBody s_law_number) (defScope s_law_number) [] [] (He.ga K "_law_number") fd := let ⟨_, X, G, c⟩ := W.ex; c.t.d.def_ 33 (d := K84.d_law_number) rfl
theorem Wd.fd_law_word (W : Wd w K mg) : ∃ fd, FunD K "_law_word" "_law_word" (defArgs s_law_word) (defBody s_law_word) (defScope s_law_word) [] [] (He.ga K "_law_word") fd := let ⟨_, X, G, c⟩ := W.ex; c.t.d.def_ 34 (d := K84.d_law_word) rfl
theorem Wd.fd_law_name (W : Wd w K mg) : ∃ fd, FunD K "_law_name" "_law_name" (defArgs s_law_name) (defBody s_law_name) (defScope s_law_name) [] [] (He.ga K "_law_name") fd := let ⟨_, X, G, c⟩ := W.ex; c.t.d.def_ 35 (d := K84.d_law_name) rfl
theorem Wd.fd_law_deed (W : Wd w K mg) : ∃ fd, FunD K "_law_deed" "_law_deed" (defArgs s_law_deed) (defBody s_law_deed) (defScope s_law_deed) [] [] (He.ga K "_law_deed") fd := let ⟨_, X, G, c⟩ := W.ex; c.t.d.def_ 36 (d := K84.d_law_deed) rfl
theorem Wd.fd_law_letter (W : Wd w K mg) : ∃ fd, FunD K "_law_letter" "_law_letter" (defArgs s_law_letter) (defBody s_law_letter) (defScope s_law_letter) [] [] (He.ga K "_law_letter") fd := let ⟨_, X, G, c⟩ := W.ex; c.t.d.def_ 37 (d := K84.d_law_letter) rfl
theorem Wd.fd_law_name_text (W : Wd w K mg) : ∃ fd, FunD K "_law_name_text" "_law_name_text" (defArgs s_law_name_text) (defBody s_law_name_text) (defScope s_law_name_text) [] [] (He.ga K "_law_name_text") fd := let ⟨_, X, G, c⟩ := W.ex; c.t.d.def_ 38 (d := K84.d_law_name_text) rfl
theorem Wd.fd_law_letter_words (W : Wd w K mg) : ∃ fd, FunD K "_law_letter_words" "_law_letter_words" (defArgs s_law_letter_words) (defBody s_law_letter_words) (defScope s_law_letter_words) [] [] (He.ga K "_law_letter_words") fd := let ⟨_, X, G, c⟩ := W.ex; c.t.d.def_ 39 (d := K84.d_law_letter_words) rfl
theorem Wd.fd_law_claim (W : Wd w K mg) : ∃ fd, FunD K "_law_claim" "_law_claim" (defArgs s_law_claim) (defBody s_law_claim) (defScope s_law_claim) [] [] (He.ga K "_law_claim") fd := let ⟨_, X, G, c⟩ := W.ex; c.t.d.def_ 40 (d := K84.d_law_claim) rfl
theorem Wd.fd_law_claim_words (W : Wd w K mg) : ∃ fd, FunD K "_law_claim_words" "_law_claim_words" (defArgs s_law_claim_words) (defBody s_law_claim_words) (defScope s_law_claim_words) [] [] (He.ga K "_law_claim_words") fd := let ⟨_, X, G, c⟩ := W.ex; c.t.d.def_ 41 (d := K84.d_law_claim_words) rfl
theorem Wd.fd_law_text (W : Wd w K mg) : ∃ fd, FunD K "_law_text" "_law_text" (defArgs s_law_text) (defBody s_law_text) (defScope s_law_text) [] [] (He.ga K "_law_text") fd := let ⟨_, X, G, c⟩ := W.ex; c.t.d.def_ 42 (d := K84.d_law_text) rfl
theorem Wd.fd_law_told (W : Wd w K mg) : ∃ fd, FunD K "_law_told" "_law_told" (defArgs s_law_told) (defBody s_law_told) (defScope s_law_told) [] [] (He.ga K "_law_told") fd := let ⟨_, X, G, c⟩ := W.ex; c.t.d.def_ 43 (d := K84.d_law_told) rfl
theorem Wd.fd_law_same (W : Wd w K mg) : ∃ fd, FunD K "_law_same" "_law_same" (defArgs s_law_same) (defBody s_law_same) (defScope s_law_same) [] [] (He.ga K "_law_same") fd := let ⟨_, X, G, c⟩ := W.ex; c.t.d.def_ 44 (d := K84.d_law_same) rfl
theorem Wd.fd_law_called (W : Wd w K mg) : ∃ fd, FunD K "_law_called" "_law_called" (defArgs s_law_called) (defBody s_law_called) (defScope s_law_called) [] [] (He.ga K "_law_called") fd := let ⟨_, X, G, c⟩ := W.ex; c.t.d.def_ 45 (d := K84.d_law_called) rfl
theorem Wd.fd_law_whole (W : Wd w K mg) : ∃ fd, FunD K "_law_whole" "_law_whole" (defArgs s_law_whole) (defBody s_law_whole) (defScope s_law_whole) [] [] (He.ga K "_law_whole") fd := let ⟨_, X, G, c⟩ := W.ex; c.t.d.def_ 46 (d := K84.d_law_whole) rfl
theorem Wd.fd_law_named (W : Wd w K mg) : ∃ fd, FunD K "_law_named" "_law_named" (defArgs s_law_named) (defBody s_law_named) (defScope s_law_named) [] [] (He.ga K "_law_named") fd := let ⟨_, X, G, c⟩ := W.ex; c.t.d.def_ 47 (d := K84.d_law_named) rfl
theorem Wd.fd_law_done (W : Wd w K mg) : ∃ fd, FunD K "_law_done" "_law_done" (defArgs s_law_done) (defBody s_law_done) (defScope s_law_done) [] [] (He.ga K "_law_done") fd := let ⟨_, X, G, c⟩ := W.ex; c.t.d.def_ 48 (d := K84.d_law_done) rfl
theorem Wd.fd_law_due (W : Wd w K mg) : ∃ fd, FunD K "_law_due" "_law_due" (defArgs s_law_due) (defBody s_law_due) (defScope s_law_due) [] [] (He.ga K "_law_due") fd := let ⟨_, X, G, c⟩ := W.ex; c.t.d.def_ 49 (d := K84.d_law_due) rfl
theorem Wd.fd_law_claim_due (W : Wd w K mg) : ∃ fd, FunD K "_law_claim_due" "_law_claim_due" (defArgs s_law_claim_due) (defBody s_law_claim_due) (defScope s_law_claim_due) [] [] (He.ga K "_law_claim_due") fd := let ⟨_, X, G, c⟩ := W.ex; c.t.d.def_ 50 (d := K84.d_law_claim_due) rfl
theorem Wd.fd_law_changed (W : Wd w K mg) : ∃ fd, FunD K "_law_changed" "_law_changed" (defArgs s_law_changed) (defBody s_law_changed) (defScope s_law_changed) [] [] (He.ga K "_law_changed") fd := let ⟨_, X, G, c⟩ := W.ex; c.t.d.def_ 51 (d := K84.d_law_changed) rfl
theorem Wd.fd_law_right (W : Wd w K mg) : ∃ fd, FunD K "_law_right" "_law_right" (defArgs s_law_right) (defBody s_law_right) (defScope s_law_right) [] [] (He.ga K "_law_right") fd := let ⟨_, X, G, c⟩ := W.ex; c.t.d.def_ 52 (d := K84.d_law_right) rfl
theorem Wd.fd_law (W : Wd w K mg) : ∃ fd, FunD K "law" "law" (defArgs s_law) (defBody s_law) (defScope s_law) [] [] (He.ga K "law") fd := let ⟨_, X, G, c⟩ := W.ex; c.t.d.def_ 53 (d := K84.d_law) rfl
theorem Wd.ex1 (W : Wd w K mg) : exB K = true := let ⟨_, _, _, c⟩ := W.ex; c.more
theorem Wd.shapesK (W : Wd w K mg) : ∃ es n, KDict K w (He.ga K "SHAPES") es n := let ⟨_, X, G, c⟩ := W.ex; c.t.tab 0 (t := ((fun K => He.ga K "SHAPES"), _)) rfl
/-- the class of the errors -/
abbrev CN (K : PySem.W.Frag) : Addr := He.ga K "NoLetter"
theorem Wd.parts (W : Wd w K mg) : shapesB K = true ∧ He.tupB K "CLAUSE_DEEDS" [.str "free", .str "ready", .str "quit"] = true ∧ excB K = true ∧ isB K = true ∧ dec2B K = true := by
  have h := W.ex1
  unfold exB at h
  simp only [Bool.and_eq_true] at h
  exact ⟨h.1, h.2.1, h.2.2.1, h.2.2.2.1, h.2.2.2.2⟩
theorem Wd.deeds (W : Wd w K mg) (H : Hp) : SqT K H (He.ga K "CLAUSE_DEEDS") [.str "free", .str "ready", .str "quit"] := He.tupB_ok W.parts.2.1 H
theorem Wd.shape (W : Wd w K mg) {q : Str × List Str} (h : q ∈ K84.shapes) : PySem.W.nsIn K (He.ga K "SHAPES") q.1 = some (some (.ref (shapeAt K q.1))) ∧ ∀ H, SqT K H (shapeAt K q.1) (q.2.map V.str) := by
  have h1 := W.parts.1
  unfold shapesB at h1
  have h2 := List.all_eq_true.mp h1 q h
  simp only [Bool.and_eq_true, decide_eq_true_eq] at h2
  exact ⟨h2.1, fun H => tupAtB_ok h2.2 H⟩
theorem Wd.keys (W : Wd w K mg) : He.dicW K (He.ga K "SHAPES") = some (He.keysIn w.params ["held", "kept", "late", "ill", "back", "twin", "loose", "behind", "ahead"]) := by
  obtain ⟨_, X, G, c⟩ := W.ex
  have e : ts.map (fun t => He.dicW K (t.1 K)) = ts.map fun t => some (He.keysIn w.params t.2) := congrArg (fun z : He.AlT => z.2) c.t
  exact (List.cons.inj e).1
theorem Wd.noShape (W : Wd w K mg) {z : Str} (h : ∀ q ∈ K84.shapes, q.1 ≠ z) : PySem.W.nsIn K (He.ga K "SHAPES") z = some none := by
  obtain ⟨es, n, D⟩ := W.shapesK
  have h1 := W.keys
  unfold He.dicW at h1
  rw [D.at_] at h1
  have h2 : es.toList.map He.keyOf = He.keysIn w.params ["held", "kept", "late", "ill", "back", "twin", "loose", "behind", "ahead"] := by
    have e : (match decide (("dict" : String) = "dict") && ((#[] : Array (Option Value)).isEmpty && !(He.ga K "SHAPES" == sysModules)) with
      | true => some (es.toList.map He.keyOf)
      | false => none) = some (He.keysIn w.params ["held", "kept", "late", "ill", "back", "twin", "loose", "behind", "ahead"]) := h1
    rw [D.low] at e
    exact Option.some.inj e
  have h3 : ∀ e ∈ es.toList, ∃ x t, e.key = .str x t ∧ x ≠ z := fun e he => by
    obtain ⟨x, t, e1, _⟩ := D.lit.all e he
    refine ⟨x, t, e1, fun ez => ?_⟩
    have h4 : He.keyOf e ∈ He.keysIn w.params ["held", "kept", "late", "ill", "back", "twin", "loose", "behind", "ahead"] := by
      rw [← h2]
      exact List.mem_map.mpr ⟨e, he, rfl⟩
    have h5 : He.keyOf e = some (x, e.hash) := by
      unfold He.keyOf
      rw [e1]
    rw [h5] at h4
    obtain ⟨k, hk, ek⟩ := List.mem_map.mp h4
    have ekx : k = x := congrArg Prod.fst (Option.some.inj ek)
    have hq : ∀ k ∈ (["held", "kept", "late", "ill", "back", "twin", "loose", "behind", "ahead"] : List Str), ∃ q ∈ K84.shapes, q.1 = k := by decide +kernel
    obtain ⟨q, hq1, hq2⟩ := hq k hk
    exact h q hq1 (hq2.trans (ekx.trans ez))
  unfold PySem.W.nsIn
  rw [D.at_]
  have h4 : es.toList.find? (fun e => e.key.isStr z) = none := by
    rw [List.find?_eq_none]
    intro e he hz
    obtain ⟨x, t, e1, e2⟩ := h3 e he
    rw [e1] at hz
    exact e2 (eq_of_beq hz)
  have h6 : es.toList.any (fun e => e.refKey) = false := by
    rw [List.any_eq_false]
    intro e he
    obtain ⟨x, t, e1, e2⟩ := h3 e he
    unfold DictEntry.refKey
    rw [e1]
    exact Bool.false_ne_true
  show (match es.toList.find? (fun e => e.key.isStr z) with
      | some e => some (some e.val)
      | none => if es.toList.any (fun e => e.refKey) = true then none else some none) = some none
  rw [h4, h6]
  rfl
/-- NoLetter -/
structure ExFacts (K : PySem.W.Frag) : Prop where
  o : OexC K (CN K)
  row : PySem.W.findIn K (.ref (CN K)) "row" = some none
  init : PySem.W.findIn K (.ref (CN K)) "__init__" = some (some (.ref (He.ma K (He.ga K "HoldError") "__init__")))
  ty : PySem.W.typeIn K (.ref (He.ma K (He.ga K "HoldError") "__init__")) = some (.type "function")
  exm : PySem.W.exmOne K (.ref (CN K)) (.ref (He.ga K "HoldError")) = some true
theorem Wd.exf (W : Wd w K mg) : ExFacts K := by
  have h := W.parts.2.2.1
  unfold excB at h
  simp only [Bool.and_eq_true, decide_eq_true_eq] at h
  obtain ⟨h1, h2, h3, h4, h5, h6, h7, h8, h9⟩ := h
  exact ⟨⟨oexB_ok h1, He.eqO_ok h2, h3, h4, h5⟩, He.eqO_ok h6, He.eqO_ok h7, h8, h9⟩
theorem Wd.rc1 (W : Wd w K mg) : RC1 K (CN K) := ⟨W.exf.o, W.exf.row⟩
structure IsFacts (K : PySem.W.Frag) : Prop where
  c : ExcC K (CN K)
  me : PySem.W.kitOne K (.ref (CN K)) (.ref (CN K)) = some true
  ve : PySem.W.kitOne K (.ref (CN K)) (.type "ValueError") = some true
  oth : PySem.W.kitAny K (.ref (CN K)) [.ref (He.ga K "NoTown"), .ref (He.ga K "NoPile"), .ref (He.ga K "NoRow")] = some false
theorem Wd.isf (W : Wd w K mg) : IsFacts K := by
  have h := W.parts.2.2.2.1
  unfold isB at h
  simp only [Bool.and_eq_true, decide_eq_true_eq] at h
  obtain ⟨h1, h2, h3, h4, h5, h6, h7, h8, h9, h10⟩ := h
  obtain ⟨gt, hgt⟩ := Option.isSome_iff_exists.mp h3
  exact ⟨⟨h1, He.eqO_ok h2, ⟨gt, hgt⟩, W.exf.o.exC, He.eqO_ok h4, He.eqO_ok h5, h6, h7⟩, h8, h9, h10⟩
theorem Wd.vinit (W : Wd w K mg) : PySem.W.findCls K (.type "ValueError") (.type "type") "__init__" = some (.val (.builtin "ValueError.__init__")) := by
  have h := W.parts.2.2.2.2
  unfold dec2B at h
  split at h
  · rename_i n e
    rw [e, of_decide_eq_true h]
  · cases h
end
/-- a def of the text, called by its positional arguments -/
def FnI (P : Program) (w : World) (K : PySem.W.Frag) (mg : Str → Option Value) (base : Heap) (k : Nat) (f : Addr) (sp : Sp) : Prop :=
  ∃ fd ps, FnOk P w K mg base (L2.CX P w) k f fd ps sp ∧ Binds K fd ps [] ∧ PySem.W.keepIn K (.ref f) = true
section
variable {X : Cx} {j k i : Nat} {f : Addr} {sp : Sp} {E : XK} {x : Str} {p pos : Pos} {e : Expr} {es : List Expr} {t : TA}
theorem pe_callI (F : FnI X.prog X.w X.K X.mg X.base k f sp) (hr : Room j X.A) (hm : X.mg x = some (.ref f)) (hx : Passes (L2.CX X.prog X.w) X E) (ha : PA X (e :: es) t) (hk : k ≤ j := by decide) (hg : Gl X x := by rfl)
    (hdb : (x == ("__debug__" : Str)) = false := by decide) (he : starEach (e :: es) X.env = (false, eval e X.env) :: starEach es X.env := by rfl) (hpl : (backTo pos (starEach es X.env)).any (·.1) = false := by rfl) :
    PE X (.Call (.Name x p) (e :: es) [] pos) (tCall sp [] E t) := by
  obtain ⟨fd, ps, F, hb, kp⟩ := F
  exact pe_call F (hr.mono hk) hg hm kp hb .nil hx ha hdb he hpl
theorem pe_callIL (F : FnI X.prog X.w X.K X.mg X.base k f sp) (hr : Room j X.A) (hN : X.N[i]? = some x) (hv : Vis X.env.scope x) (hx : Passes (L2.CX X.prog X.w) X E) (ha : PA X (e :: es) t) (hk : k ≤ j := by decide)
    (hdb : (x == ("__debug__" : Str)) = false := by decide) (hcd : (x == ("__classdict__" : Str)) = false := by decide) (he : starEach (e :: es) X.env = (false, eval e X.env) :: starEach es X.env := by rfl) (hpl : (backTo pos (starEach es X.env)).any (·.1) = false := by rfl) :
    PE X (.Call (.Name x p) (e :: es) [] pos) (tCallL i f sp [] E t) := by
  obtain ⟨fd, ps, F, hb, kp⟩ := F
  exact pe_callL F (hr.mono hk) hN hv kp hb .nil hx ha hdb hcd he hpl
theorem ixK (r : PySem.W.Frag → R2) (K : PySem.W.Frag) (h : IxR X (r X.K)) (e : X.K = K := by rfl) : IxR X (r K) := e ▸ h
theorem slK (r : PySem.W.Frag → V → Option Int → Option Int → Hp → VK → Prop) (K : PySem.W.Frag) (h : L2.SlR X (r X.K)) (e : X.K = K := by rfl) : L2.SlR X (r K) := e ▸ h
theorem opK {f : Value → Value → Sem Value} (r : PySem.W.Frag → R2) (K : PySem.W.Frag) (h : OpR X f (r X.K)) (e : X.K = K := by rfl) : OpR X f (r K) := e ▸ h
theorem callK {g : Value} (r : PySem.W.Frag → List V → Hp → VK → Prop) (K : PySem.W.Frag) (h : CallR X g (r X.K)) (e : X.K = K := by rfl) : CallR X g (r K) := e ▸ h
theorem mtK {id : String} (r : PySem.W.Frag → V → List V → Hp → VK → Prop) (K : PySem.W.Frag) (h : MtR X id (r X.K)) (e : X.K = K := by rfl) : MtR X id (r K) := e ▸ h
theorem pg_tupK {es : List Expr} {kk : Nat} {tg : TGs} (n : Nat) (K : PySem.W.Frag) (hc : X.calm = true) (h : PGs X es tg) (hn : (assignEach es X.env).length = n := by rfl) (hst : (assignEach es X.env).findIdx? (·.1) = none := by rfl) (e : X.K = K := by rfl) :
    PG X (.Tuple es kk pos) (gTup K n tg) := e ▸ pg_tup (n := n) hc h hn hst
theorem pe_gi {v : V} (h : ∃ u, X.mg x = some u ∧ RelV v u) (hg : Gl X x := by rfl) (hdb : (x == ("__debug__" : Str)) = false := by decide) : PE X (.Name x pos) (tC v) := by
  obtain ⟨u, e, r⟩ := h
  exact pe_glob hg e r hdb
end
section
variable {P : Program} {w : World} {K : PySem.W.Frag} {mg : Str → Option Value} {base : Heap}
theorem FnI.of {x qual : Str} {params : Arguments} {body : List Stmt} {scope : Scope} {f : Addr} {fd : FuncData} {N ps : List Str} {k : Nat} {α : Type} {M : α → Mode} {arg : α → List Dv} {A : α → Prop} {Pm : α → PyData → Prop} {Xm : α → Prop}
    (F : FunD K x qual params body scope [] [] f fd) (S : FnScope N ps scope)
    (hb : ∀ (kV doc pm : Value) (an : Option Addr) (cdv ct : Value) (us : List Value), us.length = ps.length → bindArgs (PySem.W.fnOf x qual params body scope .none kV doc pm an cdv ct) ⟨us, []⟩ = pure (ps.zip us))
    (hA : ∀ a, A a → (arg a).length = ps.length)
    (h : ∀ (cdv : Value) (A' : Around) (outer : List Env) (s : Shared) (H : Hp) (E : XK), Room k (A'.deeper (envOfC qual scope s.heap.objs.size f cdv)) → ∀ a, A a →
      ∃ t, PSs (cxOf (L2.CX P w) P w K mg base N qual scope f cdv A' outer s H E) body t ∧ WpS ⟨K, M a, E, CN K⟩ t (startD N (arg a)) ⟨fun _ => Pm a .none, fun d => ∃ y, d = .d y ∧ Pm a y, Xm a⟩) :
    FnI P w K mg base (k + 1) f (spD K (CN K) M arg A Pm Xm) := by
  refine ⟨fd, ps, F.ok S (sp_len hA) fun cdv A' outer s H vs Q E hr hs => ?_, F.bindsN hb, F.kp⟩
  obtain ⟨a, G, Pr, ha, hv, v, hq, hx⟩ := hs
  obtain ⟨t, ht, hw⟩ := h cdv A' outer s H E hr a ha
  refine ⟨t, ht, ?_⟩
  refine hw Pr G H _ v (sl_start hv) _ (fun ss' σ' G' H' hp g _ => hq .none .non G' H' hp g .non) (fun d w G' H' ⟨y, ed, hp⟩ g rd => ?_) fun z dd fs H' k hd => hx z dd fs H' k hd
  subst ed
  exact hq y w G' H' hp g rd
end
end K84

/-! part K84G -/
set_option maxHeartbeats 2000000
/-! K84G: helpers of the defs' proofs. -/
namespace K84
open PySem PySem.Spec PyProof.Rows L2
theorem u65 {k : Nat} {A : Around} (r : Room k A) : A.units + 65 < cLine := by have := r.un; omega
/-- by cases of a Boolean that a reading branches on -/
theorem b_if {b : Bool} {A B : Prop} (h1 : b = true → A) (h2 : b = false → B) : if b = true then A else B := by
  cases b with
  | true => exact h1 rfl
  | false => exact h2 rfl
theorem b_if2 {c : Prop} [Decidable c] {A B : Prop} (h1 : c → A) (h2 : ¬ c → B) : if decide c = true then A else B := by
  by_cases h : c
  · rw [decide_eq_true h]; exact h1 h
  · rw [decide_eq_false h]; exact h2 h
theorem ite_nt {A B : Prop} (h : B) : if (!true) = true then A else B := by
  rw [Bool.not_true]; exact L2.iteF h
theorem ite_nf {A B : Prop} (h : A) : if (!false) = true then A else B := by
  rw [Bool.not_false]; exact L2.iteT h
theorem wp_isi' {Γ : Ctx} {ss : Sd} {k : Dv → Prop} {x : Prop} {te : TE} {n : String} (hn : n = "int" ∨ n = "bool" ∨ n = "str" ∨ n = "tuple") (h : Wp Γ te ss (fun d => ∃ y b, d = .d y ∧ isTy y n = b ∧ k (.d (.bool b))) x) :
    Wp Γ (tCB (rIsi Γ.K) (tCons te (tCons (tC (.ty n)) tNil))) ss k x := wp_isi hn (h.imp fun d ⟨y, b, e1, e2, q⟩ => ⟨y, e1, by rw [e2]; exact q⟩)
theorem b_ifn {c : Prop} [Decidable c] {A B : Prop} (h1 : c → B) (h2 : ¬ c → A) : if (!decide c) = true then A else B := by
  by_cases h : c
  · rw [decide_eq_true h]; exact h1 h
  · rw [decide_eq_false h]; exact h2 h
theorem b_ifnb {b : Bool} {A B : Prop} (h1 : b = true → B) (h2 : b = false → A) : if (!b) = true then A else B := by
  cases b with
  | true => exact h1 rfl
  | false => exact h2 rfl
section
variable {Γ : Ctx} {ss : Sd} {k : Dv → Prop} {x : Prop} {wi : TI} {g : TG} {tt : TT} {te : TE} {vs : List Nat}
theorem paired_fun {α β : Type} {R : α → β → Prop} {f : α → β} (h : ∀ a b, R a b → b = f a) : ∀ {l : List α} {m : List β}, Paired R l m → m = l.map f
  | _, _, .nil => rfl
  | _, _, .cons r t => by rw [h _ _ r, paired_fun h t]; rfl
theorem paired_opt {α β : Type} {R : α → β → Prop} {f : α → Option β} (h : ∀ a b, R a b → f a = some b) : ∀ {l : List α} {m : List β}, Paired R l m → l.mapM f = some m
  | _, _, .nil => rfl
  | _, _, .cons r t => by rw [List.mapM_cons, h _ _ r, paired_opt h t]; rfl
theorem paired_mapL {α β γ : Type} {R : β → γ → Prop} {f : α → β} : ∀ {l : List α} {m : List γ}, Paired R (l.map f) m → Paired (fun a c => R (f a) c) l m
  | [], _, .nil => .nil
  | _ :: _, _, .cons r t => .cons r (paired_mapL t)
/-- [te for g in wi]: f made of each item; e: how an item stands there -/
theorem wp_lcG {γ : Type} (e f : γ → PyData) (inj : ∀ a b, e a = e b → a = b)
    (h : WpI Γ wi ss (fun its => ∃ cs : List γ, its = cs.map (fun c => Dv.d (e c)) ∧ cs.length ≤ 100000 ∧ (∀ c ∈ cs, ∃ s', Tgt g Γ.K vs (wipeD ss vs) (.d (e c)) s' ∧ Wp Γ te s' (fun z => z = .d (f c)) x) ∧ k (.d (.list (cs.map f)))) x) : Wp Γ (tLc wi g tYes te vs) ss k x :=
  wp_lc0 (fun d z => ∃ c, d = .d (e c) ∧ z = f c) fun Pr G H σ v s R hr hx => h Pr G H σ v s R (fun its J G1 H1 ⟨cs, ei, hl, hi, hk⟩ g1 src => hr its J G1 H1 (by
    subst ei
    refine ⟨by rw [List.length_map]; exact hl, fun d hd => ?_, fun ys hp => ?_⟩
    · obtain ⟨c, hc, rfl⟩ := List.mem_map.mp hd
      obtain ⟨s', h1, h2⟩ := hi c hc
      exact ⟨s', h1, h2.imp fun z ez => ⟨f c, ez, c, rfl, rfl⟩⟩
    · have e := paired_fun (f := f) (fun a b ⟨c, e1, e2⟩ => by cases inj _ _ (Dv.d.inj e1); exact e2) (paired_mapL hp)
      rw [e]
      exact hk) g1 src) hx
/-- [te for g in wi]: f may be out (then an error is wished for) -/
theorem wp_lcO {γ : Type} (e : γ → PyData) (f : γ → Option PyData) (inj : ∀ a b, e a = e b → a = b)
    (h : WpI Γ wi ss (fun its => ∃ cs : List γ, its = cs.map (fun c => Dv.d (e c)) ∧ cs.length ≤ 100000 ∧ (∀ c ∈ cs, ∃ s', Tgt g Γ.K vs (wipeD ss vs) (.d (e c)) s' ∧ Wp Γ te s' (fun z => ∃ u, z = .d u ∧ f c = some u) x) ∧ ∀ zs, cs.mapM f = some zs → k (.d (.list zs))) x) : Wp Γ (tLc wi g tYes te vs) ss k x :=
  wp_lc0 (fun d z => ∃ c, d = .d (e c) ∧ f c = some z) fun Pr G H σ v s R hr hx => h Pr G H σ v s R (fun its J G1 H1 ⟨cs, ei, hl, hi, hk⟩ g1 src => hr its J G1 H1 (by
    subst ei
    refine ⟨by rw [List.length_map]; exact hl, fun d hd => ?_, fun ys hp => ?_⟩
    · obtain ⟨c, hc, rfl⟩ := List.mem_map.mp hd
      obtain ⟨s', h1, h2⟩ := hi c hc
      exact ⟨s', h1, h2.imp fun z ⟨u, ez, eu⟩ => ⟨u, ez, c, rfl, eu⟩⟩
    · exact hk ys (paired_opt (fun a b ⟨c, e1, e2⟩ => by cases inj _ _ (Dv.d.inj e1); exact e2) (paired_mapL hp))) g1 src) hx
/-- [te for g in wi if tt] -/
theorem wp_lcIf {γ : Type} (e f : γ → PyData) (p : γ → Bool) (inj : ∀ a b, e a = e b → a = b)
    (h : WpI Γ wi ss (fun its => ∃ cs : List γ, its = cs.map (fun c => Dv.d (e c)) ∧ cs.length ≤ 100000 ∧ (∀ c ∈ cs, ∃ s', Tgt g Γ.K vs (wipeD ss vs) (.d (e c)) s' ∧ WpT Γ tt s' (fun b => b = p c ∧ (b = true → Wp Γ te s' (fun z => z = .d (f c)) x)) x) ∧ k (.d (.list ((cs.filter p).map f)))) x) : Wp Γ (tLc wi g tt te vs) ss k x := by
  classical
  exact wp_lc (fun d => decide (∃ c, d = .d (e c) ∧ p c = true)) (fun d z => ∃ c, d = .d (e c) ∧ z = f c) fun Pr G H σ v s R hr hx => h Pr G H σ v s R (fun its J G1 H1 ⟨cs, ei, hl, hi, hk⟩ g1 src => hr its J G1 H1 (by
    subst ei
    have pe : ∀ c, decide (∃ c', (Dv.d (e c)) = .d (e c') ∧ p c' = true) = p c := fun c => by
      cases h : p c with
      | true => exact decide_eq_true ⟨c, rfl, h⟩
      | false => exact decide_eq_false fun ⟨c', e1, e2⟩ => by rw [← inj _ _ (Dv.d.inj e1), h] at e2; cases e2
    refine ⟨by rw [List.length_map]; exact hl, fun d hd => ?_, fun ys hp => ?_⟩
    · obtain ⟨c, hc, rfl⟩ := List.mem_map.mp hd
      obtain ⟨s', h1, h2⟩ := hi c hc
      exact ⟨s', h1, h2.imp fun b ⟨eb, hb⟩ => ⟨by rw [pe]; exact eb, fun z => (hb z).imp fun z ez => ⟨f c, ez, c, rfl, rfl⟩⟩⟩
    · have ef : (cs.map fun c => Dv.d (e c)).filter (fun d => decide (∃ c, d = .d (e c) ∧ p c = true)) = (cs.filter p).map fun c => Dv.d (e c) := by
        rw [List.filter_map]
        congr 1
        exact List.filter_congr fun c _ => pe c
      rw [ef] at hp
      have e := paired_fun (f := f) (fun a b ⟨c, e1, e2⟩ => by cases inj _ _ (Dv.d.inj e1); exact e2) (paired_mapL hp)
      rw [e]
      exact hk) g1 src) hx
end

/-! ### comparing data -/
abbrev okS (z : Str) : Bool := PyData.strOk z
theorem shaped_str {z : Str} (h : okS z = true) : SeqAt.shaped (.str z) = true := by
  unfold SeqAt.shaped
  simp [PyData.canLay0, PyData.depth, h]
theorem canLay_strs : ∀ {xs : List Str}, (∀ z ∈ xs, okS z = true) → PyData.canLayAll0 (xs.map PyData.str) = true
  | [], _ => rfl
  | x :: xs, h => by
    show (PyData.canLay0 (.str x) && PyData.canLayAll0 (xs.map PyData.str)) = true
    rw [canLay_strs fun z hz => h z (List.mem_cons_of_mem _ hz)]
    show (PyData.strOk x && true) = true
    rw [show PyData.strOk x = true from h x List.mem_cons_self]
    rfl
theorem depth_strs : ∀ xs : List Str, PyData.depthAll (xs.map PyData.str) = 0
  | [] => rfl
  | x :: xs => by
    show max 0 (PyData.depthAll (xs.map PyData.str)) = 0
    rw [depth_strs xs]
    rfl
theorem shaped_strsL {xs : List Str} (h : ∀ z ∈ xs, okS z = true) : SeqAt.shaped (.list (xs.map PyData.str)) = true := by
  unfold SeqAt.shaped
  have e : PyData.canLay0 (.list (xs.map PyData.str)) = PyData.canLayAll0 (xs.map PyData.str) := rfl
  have d : PyData.depth (.list (xs.map PyData.str)) = PyData.depthAll (xs.map PyData.str) + 1 := rfl
  rw [e, d, canLay_strs h, depth_strs]
  rfl
theorem shaped_strsT {xs : List Str} (h : ∀ z ∈ xs, okS z = true) : SeqAt.shaped (.tuple (xs.map PyData.str)) = true := by
  unfold SeqAt.shaped
  have e : PyData.canLay0 (.tuple (xs.map PyData.str)) = PyData.canLayAll0 (xs.map PyData.str) := rfl
  have d : PyData.depth (.tuple (xs.map PyData.str)) = PyData.depthAll (xs.map PyData.str) + 1 := rfl
  rw [e, d, canLay_strs h, depth_strs]
  rfl
theorem eqv_str (x y : Str) : PyData.eqv (.str x) (.str y) = decide (x = y) := by
  show (x == y) = _
  by_cases h : x = y
  · rw [decide_eq_true h, h]; exact beq_self_eq_true _
  · rw [decide_eq_false h]; exact beq_eq_false_iff_ne.mpr h
theorem eqv_int (i j : Int) : PyData.eqv (.int i) (.int j) = decide (i = j) := by
  show (i == j) = _
  by_cases h : i = j
  · rw [decide_eq_true h, h]; exact beq_self_eq_true _
  · rw [decide_eq_false h]; exact beq_eq_false_iff_ne.mpr h
theorem eqv_strs : ∀ xs ys : List Str, PyData.eqvAll (xs.map PyData.str) (ys.map PyData.str) = decide (xs = ys)
  | [], [] => rfl
  | [], y :: ys => rfl
  | x :: xs, [] => rfl
  | x :: xs, y :: ys => by
    show (PyData.eqv (.str x) (.str y) && PyData.eqvAll (xs.map PyData.str) (ys.map PyData.str)) = _
    rw [eqv_str, eqv_strs xs ys]
    by_cases h : x = y <;> by_cases g : xs = ys <;> simp [h, g]
theorem isD_strs : ∀ zs : List Str, IsD (zs.map fun z => Dv.d (.str z)) (zs.map PyData.str)
  | [] => .nil
  | z :: zs => .cons _ (isD_strs zs)
section
variable {Γ : Ctx} {k : Dv → Prop}
theorem rd_eqS {x y : Str} (hx : okS x = true) (hy : okS y = true) (q : k (.d (.bool (decide (x = y))))) : RD Γ (rEqD Γ.K) (.d (.str x)) (.d (.str y)) k := rd_eq (shaped_str hx) (shaped_str hy) (by rw [eqv_str]; exact q)
theorem rd_neS {x y : Str} (hx : okS x = true) (hy : okS y = true) (q : k (.d (.bool (!decide (x = y))))) : RD Γ (rNeD Γ.K) (.d (.str x)) (.d (.str y)) k := rd_ne (shaped_str hx) (shaped_str hy) (by rw [eqv_str]; exact q)
theorem rd_eqI {i j : Int} (q : k (.d (.bool (decide (i = j))))) : RD Γ (rEqD Γ.K) (.d (.int i)) (.d (.int j)) k := rd_eq rfl rfl (by rw [eqv_int]; exact q)
theorem rd_neI {i j : Int} (q : k (.d (.bool (!decide (i = j))))) : RD Γ (rNeD Γ.K) (.d (.int i)) (.d (.int j)) k := rd_ne rfl rfl (by rw [eqv_int]; exact q)
theorem rd_eqLS {xs ys : List Str} (hx : ∀ z ∈ xs, okS z = true) (hy : ∀ z ∈ ys, okS z = true) (q : k (.d (.bool (decide (xs = ys))))) : RD Γ (rEqD Γ.K) (.d (.list (xs.map PyData.str))) (.d (.list (ys.map PyData.str))) k :=
  rd_eq (shaped_strsL hx) (shaped_strsL hy) (by show k (.d (.bool (PyData.eqvAll _ _))); rw [eqv_strs]; exact q)
theorem rd_neLS {xs ys : List Str} (hx : ∀ z ∈ xs, okS z = true) (hy : ∀ z ∈ ys, okS z = true) (q : k (.d (.bool (!decide (xs = ys))))) : RD Γ (rNeD Γ.K) (.d (.list (xs.map PyData.str))) (.d (.list (ys.map PyData.str))) k :=
  rd_ne (shaped_strsL hx) (shaped_strsL hy) (by show k (.d (.bool (!PyData.eqvAll _ _))); rw [eqv_strs]; exact q)
theorem rd_neTS {xs ys : List Str} (hx : ∀ z ∈ xs, okS z = true) (hy : ∀ z ∈ ys, okS z = true) (q : k (.d (.bool (!decide (xs = ys))))) : RD Γ (rNeD Γ.K) (.d (.tuple (xs.map PyData.str))) (.d (.tuple (ys.map PyData.str))) k :=
  rd_ne (shaped_strsT hx) (shaped_strsT hy) (by show k (.d (.bool (!PyData.eqvAll _ _))); rw [eqv_strs]; exact q)
theorem rd_eqTS {xs ys : List Str} (hx : ∀ z ∈ xs, okS z = true) (hy : ∀ z ∈ ys, okS z = true) (q : k (.d (.bool (decide (xs = ys))))) : RD Γ (rEqD Γ.K) (.d (.tuple (xs.map PyData.str))) (.d (.tuple (ys.map PyData.str))) k :=
  rd_eq (shaped_strsT hx) (shaped_strsT hy) (by show k (.d (.bool (PyData.eqvAll _ _))); rw [eqv_strs]; exact q)
theorem any_strs (x : Str) : ∀ ys : List Str, ((ys.map PyData.str).any fun z => PyData.eqv z (.str x)) = decide (x ∈ ys)
  | [] => rfl
  | y :: ys => by
    rw [List.map_cons, List.any_cons, any_strs x ys, eqv_str]
    by_cases h : y = x <;> by_cases g : x ∈ ys <;> simp [h, g, eq_comm]
    exact fun e => absurd e.symm h
theorem rd_inTS {x : Str} {ys : List Str} (hx : okS x = true) (hy : ∀ z ∈ ys, okS z = true) (q : k (.d (.bool (decide (x ∈ ys))))) : RD Γ (rInT Γ.K) (.d (.str x)) (.d (.tuple (ys.map PyData.str))) k :=
  rd_inT (shaped_str hx) (shaped_strsT hy) (by rw [any_strs]; exact q)
theorem wp_tupS {ss : Sd} {x : Prop} {tr : TA} (h : WpA Γ tr ss (fun as => ∃ zs : List Str, as = zs.map (fun z => Dv.d (.str z)) ∧ zs.length ≤ 1000 ∧ k (.d (.tuple (zs.map PyData.str)))) x) : Wp Γ (tTup tr) ss k x :=
  wp_tup fun Pr G H σ v s Q hq hx => h Pr G H σ v s Q (fun ds vs G' H' ⟨zs, e, hl, hk⟩ => hq ds vs G' H' ⟨zs.map PyData.str, by
    subst e
    exact isD_strs zs, by rw [List.length_map, sizeLine_eq]; omega, hk⟩) hx
theorem wp_lstS {ss : Sd} {x : Prop} {tr : TA} (h : WpA Γ tr ss (fun as => ∃ zs : List Str, as = zs.map (fun z => Dv.d (.str z)) ∧ zs.length ≤ 1000 ∧ k (.d (.list (zs.map PyData.str)))) x) : Wp Γ (tLst tr) ss k x :=
  wp_lst fun Pr G H σ v s Q hq hx => h Pr G H σ v s Q (fun ds vs G' H' ⟨zs, e, hl, hk⟩ => hq ds vs G' H' ⟨zs.map PyData.str, by
    subst e
    exact isD_strs zs, by rw [List.length_map, sizeLine_eq]; omega, hk⟩) hx
end
/-- the items of a display, told -/
theorem isD_of : ∀ xs : List PyData, IsD (xs.map Dv.d) xs
  | [] => .nil
  | x :: xs => .cons x (isD_of xs)
theorem cutD_map {γ : Type} (f : γ → PyData) (cs : List γ) (lo hi : Option Int) : cutD (cs.map f) lo hi = ((cs.drop (HT.sIx cs.length 0 lo)).take (HT.sIx cs.length cs.length hi - HT.sIx cs.length 0 lo)).map f := by
  unfold cutD
  rw [List.length_map, List.map_take, List.map_drop]
/-- the data of a row of slots -/
def undD : List Dv → Option (List PyData)
  | [] => some []
  | .d x :: r => match undD r with
    | some ys => some (x :: ys)
    | none => none
  | _ => none
theorem undD_is : ∀ {as : List Dv} {xs : List PyData}, undD as = some xs → IsD as xs
  | [], xs, h => by
    cases h
    exact .nil
  | .d x :: r, xs, h => by
    have h' : (match undD r with | some ys => some (x :: ys) | none => none) = some xs := h
    cases e : undD r with
    | none =>
      rw [e] at h'
      cases h'
    | some ys =>
      rw [e] at h'
      cases h'
      exact .cons x (undD_is e)
  | .r _ :: _, xs, h => by cases h
  | .e _ :: _, xs, h => by cases h
theorem cpow_ok {i j : Int} (h : decide (0 ≤ j ∧ j ≤ 1000000 ∧ i.natAbs < 2 ^ 64) = true) : CPow i j := by
  unfold CPow
  exact of_decide_eq_true h
theorem wp_tup' {Γ : Ctx} {ss : Sd} {k : Dv → Prop} {x : Prop} {tr : TA} (h : WpA Γ tr ss (fun as => ∃ xs, undD as = some xs ∧ xs.length ≤ 1000 ∧ k (.d (.tuple xs))) x) : Wp Γ (tTup tr) ss k x :=
  wp_tup fun Pr G H σ v s Q hq hx => h Pr G H σ v s Q (fun ds vs G' H' ⟨xs, e, hl, hk⟩ => hq ds vs G' H' ⟨xs, undD_is e, by rw [sizeLine_eq]; omega, hk⟩) hx
theorem wp_lst' {Γ : Ctx} {ss : Sd} {k : Dv → Prop} {x : Prop} {tr : TA} (h : WpA Γ tr ss (fun as => ∃ xs, undD as = some xs ∧ xs.length ≤ 1000 ∧ k (.d (.list xs))) x) : Wp Γ (tLst tr) ss k x :=
  wp_lst fun Pr G H σ v s Q hq hx => h Pr G H σ v s Q (fun ds vs G' H' ⟨xs, e, hl, hk⟩ => hq ds vs G' H' ⟨xs, undD_is e, by rw [sizeLine_eq]; omega, hk⟩) hx
/-- decided branches -/
theorem ite_dT {c : Prop} [Decidable c] {A B : Prop} (hc : c) (h : A) : if decide c = true then A else B := by
  rw [decide_eq_true hc]; exact L2.iteT h
theorem ite_dF {c : Prop} [Decidable c] {A B : Prop} (hc : ¬ c) (h : B) : if decide c = true then A else B := by
  rw [decide_eq_false hc]; exact L2.iteF h
theorem ite_ndT {c : Prop} [Decidable c] {A B : Prop} (hc : c) (h : B) : if (!decide c) = true then A else B := by
  rw [decide_eq_true hc]; exact ite_nt h
theorem ite_ndF {c : Prop} [Decidable c] {A B : Prop} (hc : ¬ c) (h : A) : if (!decide c) = true then A else B := by
  rw [decide_eq_false hc]; exact ite_nf h

/-! ### all([c in S for c in z]) -/
theorem getD_set {ss : Sd} {j : Nat} {d : Dv} (h : j < ss.length) : (ss.set j (some d))[j]? = some (some d) := List.getElem?_set_self h
theorem wipeD_len (ss : Sd) : ∀ vs : List Nat, (wipeD ss vs).length = ss.length
  | [] => rfl
  | v :: vs => by
    unfold wipeD
    rw [List.length_set, wipeD_len ss vs]
theorem wp_allIn {Γ : Ctx} {ss : Sd} {k : Dv → Prop} {x : Prop} {i j : Nat} {S z : Str} {vs : List Nat} (hi : ss[i]? = some (some (.d (.str z)))) (hz : z.length ≤ 100000) (hj : j < ss.length) (hv : vs = [j]) (q : k (.d (.bool (z.cps.toList.all fun c => decide (c ∈ S.cps.toList))))) :
    Wp Γ (tCB (rAll Γ.K) (tCons (tLc (iStr (tVar i)) (gName j) tYes (tOp rInSg (tVar j) (tC (.str S))) vs) tNil)) ss k x := by
  subst hv
  refine wp_cb (wa_cons (wp_lcG signD (fun c => .bool (decide (c ∈ S.cps.toList))) (fun a b e => by simpa using e) (wi_str (wp_var hi ⟨z, rfl, z.cps.toList, by rw [List.map_map]; rfl, ?_, fun c _ => ⟨_, tgt_name (by simp), ?_⟩, wa_nil ?_⟩))))
  · have : z.cps.toList.length = z.length := Array.length_toList
    omega
  · exact wp_op (wp_var (getD_set (by rw [wipeD_len]; exact hj)) (wp_str (rd_inSg rfl)))
  · have e : z.cps.toList.map (fun c => PyData.bool (decide (c ∈ S.cps.toList))) = (z.cps.toList.map fun c => decide (c ∈ S.cps.toList)).map PyData.bool := by rw [List.map_map]; rfl
    rw [e]
    refine rc_all ?_
    rw [List.all_map]
    exact q
/-- the first sign -/
theorem rd_ixS0 {Γ : Ctx} {k : Dv → Prop} {z : Str} {c : Nat} {r : List Nat} (hz : z.length ≤ 500) (h : z.cps.toList = c :: r) (q : k (.d (.str ⟨#[c]⟩))) : RD Γ rIxS (.d (.str z)) (.d (.int 0)) k :=
  rd_ixS (c := c) (Nat.le_trans hz (by rw [sizeLine_eq]; decide)) (atI_nat (j := 0) (by rw [h]; rfl)) q

/-! ### slices of lists, told plainly -/
theorem sIx_none (n d : Nat) : HT.sIx n d none = d := rfl
theorem sIx_nat (n d k : Nat) : HT.sIx n d (some (k : Int)) = min k n := HT.sIx_nat n d k
theorem cut_take (xs : List PyData) (k : Nat) : cutD xs none (some (k : Int)) = xs.take k := by
  unfold cutD
  rw [sIx_none, sIx_nat, List.drop_zero, Nat.sub_zero]
  by_cases h : k ≤ xs.length
  · rw [Nat.min_eq_left h]
  · rw [Nat.min_eq_right (by omega), List.take_of_length_le (by omega), List.take_of_length_le (by omega)]
theorem cut_drop (xs : List PyData) (k : Nat) : cutD xs (some (k : Int)) none = xs.drop k := by
  unfold cutD
  rw [sIx_none, sIx_nat]
  by_cases h : k ≤ xs.length
  · rw [Nat.min_eq_left h, List.take_of_length_le (by simp)]
  · rw [Nat.min_eq_right (by omega), List.drop_of_length_le (by omega), List.drop_of_length_le (by omega)]
    simp
theorem cut_mid (xs : List PyData) (a b : Nat) : cutD xs (some (a : Int)) (some (b : Int)) = (xs.drop a).take (b - a) := by
  unfold cutD
  rw [sIx_nat, sIx_nat]
  by_cases h : a ≤ xs.length
  · rw [Nat.min_eq_left h]
    by_cases h2 : b ≤ xs.length
    · rw [Nat.min_eq_left h2]
    · rw [Nat.min_eq_right (by omega)]
      have e1 : (xs.drop a).take (xs.length - a) = xs.drop a := List.take_of_length_le (by rw [List.length_drop]; omega)
      have e2 : (xs.drop a).take (b - a) = xs.drop a := List.take_of_length_le (by rw [List.length_drop]; omega)
      rw [e1, e2]
  · have ha : min a xs.length = xs.length := Nat.min_eq_right (by omega)
    have e1 : xs.drop a = [] := List.drop_of_length_le (by omega)
    have e2 : xs.drop xs.length = [] := List.drop_of_length_le (Nat.le_refl _)
    rw [ha, e1, e2]
    simp
theorem rs_take {Γ : Ctx} {k : Dv → Prop} {xs : List PyData} (n : Nat) (q : k (.d (.list (xs.take n)))) : RS Γ (rSlL Γ.K) (.d (.list xs)) none (some (n : Int)) k := rs_L (by rw [cut_take]; exact q)
theorem rs_drop {Γ : Ctx} {k : Dv → Prop} {xs : List PyData} (n : Nat) (q : k (.d (.list (xs.drop n)))) : RS Γ (rSlL Γ.K) (.d (.list xs)) (some (n : Int)) none k := rs_L (by rw [cut_drop]; exact q)
theorem rs_mid {Γ : Ctx} {k : Dv → Prop} {xs : List PyData} (a b : Nat) (q : k (.d (.list ((xs.drop a).take (b - a))))) : RS Γ (rSlL Γ.K) (.d (.list xs)) (some (a : Int)) (some (b : Int)) k := rs_L (by rw [cut_mid]; exact q)
/-- a list of texts against a written one -/
theorem rd_eqLW {Γ : Ctx} {k : Dv → Prop} {ds es : List PyData} (xs ys : List Str) (hd : ds = xs.map PyData.str) (he : es = ys.map PyData.str) (hx : ∀ z ∈ xs, okS z = true) (hy : ∀ z ∈ ys, okS z = true) (q : k (.d (.bool (decide (xs = ys))))) : RD Γ (rEqD Γ.K) (.d (.list ds)) (.d (.list es)) k := by
  subst hd he
  exact rd_eqLS hx hy q
theorem rd_neLW {Γ : Ctx} {k : Dv → Prop} {ds es : List PyData} (xs ys : List Str) (hd : ds = xs.map PyData.str) (he : es = ys.map PyData.str) (hx : ∀ z ∈ xs, okS z = true) (hy : ∀ z ∈ ys, okS z = true) (q : k (.d (.bool (!decide (xs = ys))))) : RD Γ (rNeD Γ.K) (.d (.list ds)) (.d (.list es)) k := by
  subst hd he
  exact rd_neLS hx hy q
theorem rd_neTW {Γ : Ctx} {k : Dv → Prop} {ds es : List PyData} (xs ys : List Str) (hd : ds = xs.map PyData.str) (he : es = ys.map PyData.str) (hx : ∀ z ∈ xs, okS z = true) (hy : ∀ z ∈ ys, okS z = true) (q : k (.d (.bool (!decide (xs = ys))))) : RD Γ (rNeD Γ.K) (.d (.tuple ds)) (.d (.tuple es)) k := by
  subst hd he
  exact rd_neTS hx hy q
theorem rd_eqTW {Γ : Ctx} {k : Dv → Prop} {ds es : List PyData} (xs ys : List Str) (hd : ds = xs.map PyData.str) (he : es = ys.map PyData.str) (hx : ∀ z ∈ xs, okS z = true) (hy : ∀ z ∈ ys, okS z = true) (q : k (.d (.bool (decide (xs = ys))))) : RD Γ (rEqD Γ.K) (.d (.tuple ds)) (.d (.tuple es)) k := by
  subst hd he
  exact rd_eqTS hx hy q
theorem rd_inTW {Γ : Ctx} {k : Dv → Prop} {x : Str} {es : List PyData} (ys : List Str) (he : es = ys.map PyData.str) (hx : okS x = true) (hy : ∀ z ∈ ys, okS z = true) (q : k (.d (.bool (decide (x ∈ ys))))) : RD Γ (rInT Γ.K) (.d (.str x)) (.d (.tuple es)) k := by
  subst he
  exact rd_inTS hx hy q
theorem rd_isN' {Γ : Ctx} {k : Dv → Prop} {x : PyData} {b : Bool} (h : isNone x = b) (q : k (.d (.bool b))) : RD Γ rIsNn (.d x) (.d .none) k := rd_isN (by rw [h]; exact q)
theorem rd_notN' {Γ : Ctx} {k : Dv → Prop} {x : PyData} {b : Bool} (h : isNone x = b) (q : k (.d (.bool (!b)))) : RD Γ rNotNn (.d x) (.d .none) k := rd_notN (by rw [h]; exact q)
/-- [te for y in a list of texts] and the like: what is walked is xs.map e -/
theorem rs_takeM {Γ : Ctx} {k : Dv → Prop} {γ : Type} {f : γ → PyData} {xs : List γ} (n : Nat) (q : k (.d (.list ((xs.take n).map f)))) : RS Γ (rSlL Γ.K) (.d (.list (xs.map f))) none (some (n : Int)) k := rs_take n (by rw [← List.map_take]; exact q)
theorem rs_dropM {Γ : Ctx} {k : Dv → Prop} {γ : Type} {f : γ → PyData} {xs : List γ} (n : Nat) (q : k (.d (.list ((xs.drop n).map f)))) : RS Γ (rSlL Γ.K) (.d (.list (xs.map f))) (some (n : Int)) none k := rs_drop n (by rw [← List.map_drop]; exact q)
theorem rs_midM {Γ : Ctx} {k : Dv → Prop} {γ : Type} {f : γ → PyData} {xs : List γ} (a b : Nat) (q : k (.d (.list (((xs.drop a).take (b - a)).map f)))) : RS Γ (rSlL Γ.K) (.d (.list (xs.map f))) (some (a : Int)) (some (b : Int)) k := rs_mid a b (by rw [← List.map_drop, ← List.map_take]; exact q)
theorem atI_map {γ : Type} {f : γ → PyData} {xs : List γ} {n : Nat} {x : γ} (h : xs[n]? = some x) : atI (xs.map f) (n : Int) = some (f x) := atI_nat (by rw [List.getElem?_map, h]; rfl)

/-- a written tuple of texts as it stands in the module -/
theorem dqT_of {K : PySem.W.Frag} {G : Hp} {a : Addr} {ys : List Str} (h : ∀ H, SqT K H a (ys.map V.str)) : Dq K G (.ref a) (.tuple (ys.map PyData.str)) := .tup (h G) dqAll_of_strs
theorem rd_inTr {Γ : Ctx} {k : Dv → Prop} {x : Str} {a : Addr} (ys : List Str) (h : ∀ H, SqT Γ.K H a (ys.map V.str)) (hx : okS x = true) (hy : ∀ z ∈ ys, okS z = true) (q : k (.d (.bool (decide (x ∈ ys))))) : RD Γ (rInT Γ.K) (.d (.str x)) (.r a) k := fun Pr G H v w vw ra rb Q hq => by
  have e : w = .ref a := rb
  subst e
  exact rd_inTS hx hy q Pr G H v (.ref a) vw ra (dqT_of h) Q hq
theorem rs_T' {Γ : Ctx} {k : Dv → Prop} {xs ys : List PyData} {lo hi : Option Int} (hw : decide (HT.sIx xs.length 0 lo = 0 ∧ HT.sIx xs.length xs.length hi = xs.length) = false) (e : cutD xs lo hi = ys) (q : k (.d (.tuple ys))) : RS Γ (rSlT Γ.K) (.d (.tuple xs)) lo hi k :=
  rs_T (of_decide_eq_false hw) (by rw [e]; exact q)
theorem rs_T1 {Γ : Ctx} {k : Dv → Prop} {x : PyData} {xs : List PyData} (q : k (.d (.tuple xs))) : RS Γ (rSlT Γ.K) (.d (.tuple (x :: xs))) (some 1) none k :=
  rs_T (by
    rintro ⟨h1, _⟩
    have e : HT.sIx (x :: xs).length 0 (some ((1 : Nat) : Int)) = min 1 (x :: xs).length := sIx_nat _ _ 1
    have h1' : HT.sIx (x :: xs).length 0 (some ((1 : Nat) : Int)) = 0 := h1
    rw [e] at h1'
    simp at h1') (by
    have e := cut_drop (x :: xs) 1
    have e' : cutD (x :: xs) (some 1) none = xs := e
    rw [e']
    exact q)

/-! ### the module's table SHAPES -/
def rNotKd (K : PySem.W.Frag) : R2 := fun x y H Q => ∃ (z : Str) (r : Option Value), x = .str z ∧ y = .ref (He.ga K "SHAPES") ∧ PySem.W.nsIn K (He.ga K "SHAPES") z = some r ∧ Q (.bl (!r.isSome)) H
theorem op_notKd {X : Cx} (W : Wd X.w X.K X.mg) : OpR X (compareOp .NotIn) (rNotKd X.K) := by
  obtain ⟨es, n, D⟩ := W.shapesK
  exact op_notIn_kd D
section
variable {M : Mode} {E : XK} {C : Addr} {K : PySem.W.Frag} {k : Dv → Prop} {w : World} {mg : Str → Option Value} {q : Str × List Str}
theorem rd_notSh (W : Wd w K mg) (h : q ∈ shapes) (hk : k (.d (.bool false))) : RD ⟨K, M, E, C⟩ (rNotKd K) (.d (.str q.1)) (.r (He.ga K "SHAPES")) k := fun Pr G H v u vw ra rb Q hq => by
  cases ra
  have e : u = .ref (He.ga K "SHAPES") := rb
  exact ⟨q.1, _, rfl, e, (W.shape h).1, hq _ _ G H hk (Go.refl vw) (.bl _)⟩
theorem rd_ixSh (W : Wd w K mg) (h : q ∈ shapes) (hk : k (.d (.tuple (q.2.map PyData.str)))) : RD ⟨K, M, E, C⟩ (rIxD K w) (.r (He.ga K "SHAPES")) (.d (.str q.1)) k := fun Pr G H v u vw ra rb Q hq => by
  cases rb
  have e : v = .ref (He.ga K "SHAPES") := ra
  obtain ⟨es, n, D⟩ := W.shapesK
  obtain ⟨s1, s2⟩ := W.shape h
  exact ⟨_, q.1, .ref (shapeAt K q.1), e, rfl, ⟨es, n, _, D.at_, D.lit, s1, rfl⟩, hq _ _ G H hk (Go.refl vw) (dqT_of s2)⟩
end
theorem rd_ixT0 {Γ : Ctx} {k : Dv → Prop} {x : PyData} {xs : List PyData} (q : k (.d x)) : RD Γ (rIxT Γ.K) (.d (.tuple (x :: xs))) (.d (.int 0)) k := rd_ixT (atI_nat (j := 0) rfl) q
theorem rd_ixL0 {Γ : Ctx} {k : Dv → Prop} {x : PyData} {xs : List PyData} (q : k (.d x)) : RD Γ (rIxL Γ.K) (.d (.list (x :: xs))) (.d (.int 0)) k := rd_ixL (atI_nat (j := 0) rfl) q
theorem zip_both {γ α β : Type} (f : γ → α) (g : γ → β) : ∀ zs : List γ, (zs.map f).zip (zs.map g) = zs.map fun z => (f z, g z)
  | [] => rfl
  | z :: zs => by
    rw [List.map_cons, List.map_cons, List.zip_cons_cons, zip_both f g zs]
    rfl
end K84

/-! part K84F -/
set_option maxHeartbeats 2000000
/-! K84F: cells whose content is told from state to state. -/
namespace K84
open PySem PySem.Spec PyProof.Rows L2
/-- cells, and what is told of them -/
structure Fam (α : Type) where
  own : Addr → Prop
  J : α → Hp → Hp → Prop
  st : ∀ {c : α} {G G' H H' : Hp}, J c G H → Same G G' → (∀ b o, own b → H b = some o → H' b = some o) → J c G' H'
section
variable {α β : Type}
def Fam.at (F : Fam α) (c : α) : Mode := ⟨F.own, F.J c, F.st⟩
structure GoF (F : Fam α) (Pr : Addr → Prop) (G H : Hp) (c' : α) (G' H' : Hp) : Prop where
  vw : Vw (F.at c') Pr G' H'
  g : Same G G'
  h : ∀ b o, ¬ F.own b → H b = some o → H' b = some o
variable {F : Fam α} {F' : Fam β} {Pr : Addr → Prop} {G H G1 H1 G2 H2 : Hp} {c c1 c2 : α}
theorem GoF.refl (v : Vw (F.at c) Pr G H) : GoF F Pr G H c G H := ⟨v, Same.refl _, fun _ _ _ h => h⟩
theorem GoF.trans (a : GoF F Pr G H c1 G1 H1) (b : GoF F Pr G1 H1 c2 G2 H2) : GoF F Pr G H c2 G2 H2 := ⟨b.vw, a.g.trans b.g, fun x o n h => b.h x o n (a.h x o n h)⟩
theorem GoF.of (g : Go (F.at c) Pr G H G1 H1) : GoF F Pr G H c G1 H1 := ⟨g.vw, g.g, g.h⟩
/-- fewer cells: c' stands for them within c; u puts what they have become back -/
structure FSub (F' : Fam β) (c' : β) (F : Fam α) (c : α) (u : β → α) : Prop where
  own : ∀ b, F'.own b → F.own b
  to : ∀ {G H : Hp}, F.J c G H → F'.J c' G H
  back : ∀ {G H G' H' : Hp} {b : β}, F.J c G H → Same G G' → (∀ x o, ¬ F'.own x → H x = some o → H' x = some o) → F'.J b G' H' → F.J (u b) G' H'
theorem FSub.vw {c' : β} {u : β → α} (s : FSub F' c' F c u) (v : Vw (F.at c) Pr G H) : Vw (F'.at c') Pr G H := v.as (fun b hb => v.ow b (s.own b hb)) (s.to v.lf)
theorem FSub.go {c' b : β} {u : β → α} (s : FSub F' c' F c u) (v : Vw (F.at c) Pr G H) (g : GoF F' Pr G H b G1 H1) : GoF F Pr G H (u b) G1 H1 :=
  ⟨g.vw.as v.ow (s.back v.lf g.g g.h g.vw.lf), g.g, fun x o n e => g.h x o (fun z => n (s.own x z)) e⟩
/-- no cells -/
def Fam.one (M : Mode) : Fam Unit := ⟨M.own, fun _ => M.J, fun h => M.st h⟩
end
structure Ctx0 where
  K : PySem.W.Frag
  E : XK
  C : Addr
abbrev Ctx0.at (Γ : Ctx0) (M : Mode) : Ctx := ⟨Γ.K, M, Γ.E, Γ.C⟩
def WantsF {α : Type} (Γ : Ctx0) (F : Fam α) (x : Prop) (H : Hp) : Prop := x → ∀ (dd : Addr) (fs : List (Str × V)) (H' : Hp), (∀ b o, ¬ F.own b → H b = some o → H' b = some o) → H' dd = some (.xd fs) → Γ.E (.ref Γ.C) (some dd) H'
section
variable {α β : Type}
theorem WantsF.on {Γ : Ctx0} {F : Fam α} {x : Prop} {H H' : Hp} (w : WantsF Γ F x H) (k : ∀ b o, ¬ F.own b → H b = some o → H' b = some o) : WantsF Γ F x H' := fun hx dd fs H2 k2 => w hx dd fs H2 fun b o n h => k2 b o n (k b o n h)
def WpF (Γ : Ctx0) (F : Fam α) (c : α) (te : TE) (ss : Sd) (k : Dv → α → Prop) (x : Prop) : Prop := ∀ Pr G H σ, Vw (F.at c) Pr G H → Sl Γ.K G σ ss → ∀ Q : VK,
  (∀ d v c' G' H', k d c' → GoF F Pr G H c' G' H' → DvR Γ.K G' v d → Q v H') → WantsF Γ F x H → te σ H Q
def WpFT (Γ : Ctx0) (F : Fam α) (c : α) (tt : TT) (ss : Sd) (k : Bool → α → Prop) (x : Prop) : Prop := ∀ Pr G H σ, Vw (F.at c) Pr G H → Sl Γ.K G σ ss → ∀ Q : Bool → Hp → Prop,
  (∀ b c' G' H', k b c' → GoF F Pr G H c' G' H' → Q b H') → WantsF Γ F x H → tt σ H Q
def WpFA (Γ : Ctx0) (F : Fam α) (c : α) (ta : TA) (ss : Sd) (k : List Dv → α → Prop) (x : Prop) : Prop := ∀ Pr G H σ, Vw (F.at c) Pr G H → Sl Γ.K G σ ss → ∀ Q : List V → Hp → Prop,
  (∀ ds vs c' G' H', k ds c' → GoF F Pr G H c' G' H' → DvAll Γ.K G' vs ds → Q vs H') → WantsF Γ F x H → ta σ H Q
structure EndF (α : Type) where
  nx : Sd → α → Prop
  rt : Dv → α → Prop
  x : Prop
def WpFS (Γ : Ctx0) (F : Fam α) (c : α) (t : TS) (ss : Sd) (e : EndF α) : Prop := ∀ Pr G H σ, Vw (F.at c) Pr G H → Sl Γ.K G σ ss → ∀ D : Ends,
  (∀ ss' σ' c' G' H', e.nx ss' c' → GoF F Pr G H c' G' H' → Sl Γ.K G' σ' ss' → D.nx σ' H') → (∀ d v c' G' H', e.rt d c' → GoF F Pr G H c' G' H' → DvR Γ.K G' v d → D.rt v H') → WantsF Γ F e.x H → t D σ H
variable {Γ : Ctx0} {F : Fam α} {F' : Fam β} {c : α} {ss : Sd} {k : Dv → α → Prop} {x : Prop} {te ta tb : TE} {tt : TT} {tr : TA} {t u : TS} {e : EndF α}
/-! from fewer cells -/
theorem wf_sub {c' : β} {up : β → α} (s : FSub F' c' F c up) (h : WpF Γ F' c' te ss (fun d b => k d (up b)) x) : WpF Γ F c te ss k x := fun Pr G H σ v sl Q hq hx =>
  h Pr G H σ (s.vw v) sl Q (fun d w b G' H' hk g r => hq d w (up b) G' H' hk (s.go v g) r) fun z dd fs H' kp => hx z dd fs H' fun b o n e => kp b o (fun y => n (s.own b y)) e
theorem fs_sub {c' : β} {up : β → α} {e' : EndF β} (s : FSub F' c' F c up) (h : WpFS Γ F' c' t ss e') (hn : ∀ ss' b, e'.nx ss' b → e.nx ss' (up b)) (hr : ∀ d b, e'.rt d b → e.rt d (up b)) (hx' : e'.x → e.x) : WpFS Γ F c t ss e := fun Pr G H σ v sl D kn kr hx =>
  h Pr G H σ (s.vw v) sl D (fun ss' σ' b G' H' hk g s' => kn ss' σ' (up b) G' H' (hn _ _ hk) (s.go v g) s') (fun d w b G' H' hk g r => kr d w (up b) G' H' (hr _ _ hk) (s.go v g) r) fun z dd fs H' kp => hx (hx' z) dd fs H' fun b o n e => kp b o (fun y => n (s.own b y)) e
/-- what no cell is touched by -/
theorem wf_lift {M : Mode} (s : Mode.Sub M (F.at c)) (h : Wp (Γ.at M) te ss (fun d => k d c) x) : WpF Γ F c te ss k x := fun Pr G H σ v sl Q hq hx =>
  h Pr G H σ (v.sub s) sl Q (fun d w G' H' hk g r => hq d w c G' H' hk (.of (g.sub s v)) r) fun z dd fs H' kp => hx z dd fs H' fun b o n e => kp b o (fun y => n (s.own b y)) e
theorem wf_lift0 (h : Wp (Γ.at Mode.no) te ss (fun d => k d c) x) : WpF Γ F c te ss k x := wf_lift .no h
theorem ft_lift0 {k : Bool → α → Prop} (h : WpT (Γ.at Mode.no) tt ss (fun b => k b c) x) : WpFT Γ F c tt ss k x := fun Pr G H σ v sl Q hq hx =>
  h Pr G H σ (v.sub .no) sl Q (fun b G' H' hk g => hq b c G' H' hk (.of (g.sub .no v))) fun z dd fs H' kp => hx z dd fs H' fun b o n e => kp b o (fun y => y) e
theorem fs_lift {M : Mode} (s : Mode.Sub M (F.at c)) (h : WpS (Γ.at M) t ss ⟨fun ss' => e.nx ss' c, fun d => e.rt d c, e.x⟩) : WpFS Γ F c t ss e := fun Pr G H σ v sl D kn kr hx =>
  h Pr G H σ (v.sub s) sl D (fun ss' σ' G' H' hk g s' => kn ss' σ' c G' H' hk (.of (g.sub s v)) s') (fun d w G' H' hk g r => kr d w c G' H' hk (.of (g.sub s v)) r) fun z dd fs H' kp => hx z dd fs H' fun b o n e => kp b o (fun y => n (s.own b y)) e
theorem fs_lift0 (h : WpS (Γ.at Mode.no) t ss ⟨fun ss' => e.nx ss' c, fun d => e.rt d c, e.x⟩) : WpFS Γ F c t ss e := fs_lift .no h
/-! expressions -/
theorem wf_op {r : R2} (h : WpF Γ F c ta ss (fun a c1 => WpF Γ F c1 tb ss (fun b c2 => RD (Γ.at Mode.no) r a b fun d => k d c2) x) x) : WpF Γ F c (tOp r ta tb) ss k x := fun Pr G H σ v s Q hq hx =>
  h Pr G H σ v s _ (fun a va c1 G1 H1 h1 g1 ra => h1 Pr G1 H1 σ g1.vw (s.mono g1.g) _ (fun b vb c2 G2 H2 h2 g2 rb => h2 Pr G2 H2 va vb (g2.vw.sub .no) (ra.mono g2.g) rb Q
    fun d z G3 H3 hk g3 rd => hq d z c2 G3 H3 hk ((g1.trans g2).trans (.of (g3.sub .no g2.vw))) rd) (hx.on g1.h)) hx
theorem fa_nil {k : List Dv → α → Prop} (q : k [] c) : WpFA Γ F c tNil ss k x := fun Pr G H σ v s Q hq _ => hq [] [] c G H q (GoF.refl v) .nil
theorem fa_cons {k : List Dv → α → Prop} (h : WpF Γ F c ta ss (fun a c1 => WpFA Γ F c1 tr ss (fun as c2 => k (a :: as) c2) x) x) : WpFA Γ F c (tCons ta tr) ss k x := fun Pr G H σ v s Q hq hx =>
  h Pr G H σ v s _ (fun a va c1 G1 H1 h1 g1 ra => h1 Pr G1 H1 σ g1.vw (s.mono g1.g) _ (fun as vs c2 G2 H2 h2 g2 rs => hq (a :: as) (va :: vs) c2 G2 H2 h2 (g1.trans g2) (.cons (ra.mono g2.g) rs)) (hx.on g1.h)) hx
theorem wf_tup (h : WpFA Γ F c tr ss (fun as c1 => ∃ xs, undD as = some xs ∧ xs.length ≤ 1000 ∧ k (.d (.tuple xs)) c1) x) : WpF Γ F c (tTup tr) ss k x := fun Pr G H σ v s Q hq hx =>
  h Pr G H σ v s _ (fun as vs c1 G1 H1 ⟨xs, i, hl, hk⟩ g1 rs => ⟨by rw [dqAll_length (rs.dq (undD_is i)), sizeLine_eq]; omega, fun p hp => by
    have n := g1.vw.new (o := .tup vs) hp
    exact hq _ _ c1 _ _ hk (g1.trans (.of n)) (.tup (SqT.of upd_same) (dqAll_mono n.g (rs.dq (undD_is i))))⟩) hx
theorem wf_lst (h : WpFA Γ F c tr ss (fun as c1 => ∃ xs, undD as = some xs ∧ xs.length ≤ 1000 ∧ k (.d (.list xs)) c1) x) : WpF Γ F c (tLst tr) ss k x := fun Pr G H σ v s Q hq hx =>
  h Pr G H σ v s _ (fun as vs c1 G1 H1 ⟨xs, i, hl, hk⟩ g1 rs => ⟨by rw [dqAll_length (rs.dq (undD_is i)), sizeLine_eq]; omega, fun p hp => by
    have n := g1.vw.new (o := .lst vs) hp
    exact hq _ _ c1 _ _ hk (g1.trans (.of n)) (.lst upd_same (dqAll_mono n.g (rs.dq (undD_is i))))⟩) hx
/-- a def of data, its arguments made with the cells -/
theorem wf_call {γ : Type} {E : XK} {M : γ → Mode} {arg : γ → List Dv} {A : γ → Prop} {P : γ → PyData → Prop} {X : γ → Prop} (hE : E = Γ.E ∨ ∀ a, ¬ X a)
    (h : WpFA Γ F c tr ss (fun ds c1 => ∃ a, ds = arg a ∧ A a ∧ Mode.Sub (M a) (F.at c1) ∧ (∀ d, P a d → k (.d d) c1) ∧ (X a → x)) x) : WpF Γ F c (tCall (spD Γ.K Γ.C M arg A P X) [] E tr) ss k x := fun Pr G H σ v s Q hq hx =>
  h Pr G H σ v s _ (fun ds vs c1 G1 H1 ⟨a, ed, ha, u, hp, hxx⟩ g rs => by
    subst ed
    refine ⟨a, G1, Pr, ha, by rw [List.append_nil]; exact rs, g.vw.sub u, fun d w G2 H2 hd g2 rd => ?_, fun z dd fs H2 k2 hd => ?_⟩
    · exact hq (.d d) w c1 G2 H2 (hp d hd) (g.trans (.of (g2.sub u g.vw))) rd
    · rcases hE with e | e
      · rw [e]
        exact hx (hxx z) dd fs H2 (fun b o n q => k2 b o (fun y => n (u.own b y)) (g.h b o n q)) hd
      · exact absurd z (e a)) hx
/-! tests, statements -/
theorem ft_test {k : Bool → α → Prop} (h : WpF Γ F c te ss (fun d c1 => ∃ b, d = .d (.bool b) ∧ k b c1) x) : WpFT Γ F c (tTest te) ss k x := fun Pr G H σ v s Q hq hx =>
  h Pr G H σ v s _ (fun d w c1 G1 H1 ⟨b, ed, hk⟩ g r => by
    subst ed
    cases r
    exact ⟨b, rfl, hq b c1 G1 H1 hk g⟩) hx
theorem ft_not {k : Bool → α → Prop} (h : WpFT Γ F c tt ss (fun b c1 => k (!b) c1) x) : WpFT Γ F c (tNot tt) ss k x := fun Pr G H σ v s Q hq hx =>
  h Pr G H σ v s _ (fun b c1 G1 H1 hk g => hq (!b) c1 G1 H1 hk g) hx
theorem fs_seq (h : WpFS Γ F c t ss { e with nx := fun s c1 => WpFS Γ F c1 u s e }) : WpFS Γ F c (tSeq t u) ss e := fun Pr G H σ v s D kn kr kx =>
  h Pr G H σ v s { D with nx := u D } (fun ss' σ' c1 G' H' hu g s' => hu Pr G' H' σ' g.vw s' D (fun ss2 σ2 c2 G2 H2 z g2 s2 => kn ss2 σ2 c2 G2 H2 z (g.trans g2) s2)
    (fun d w c2 G2 H2 z g2 r2 => kr d w c2 G2 H2 z (g.trans g2) r2) (kx.on g.h)) kr kx
theorem fs_nx (h : e.nx ss c) : WpFS Γ F c tNext ss e := fun Pr G H σ v s D kn kr kx => kn ss σ c G H h (GoF.refl v) s
theorem fs_set {i : Nat} (h : WpF Γ F c te ss (fun d c1 => e.nx (ss.set i (some d)) c1) e.x) : WpFS Γ F c (tAsg te (gName i)) ss e := fun Pr G H σ v s D kn kr kx =>
  h Pr G H σ v s _ (fun d w c1 G1 H1 hk g rd => kn _ _ c1 G1 H1 hk g (Sl.set rd i (s.mono g.g))) kx
theorem fs_ret (h : WpF Γ F c te ss e.rt e.x) : WpFS Γ F c (tRet te) ss e := fun Pr G H σ v s D kn kr kx =>
  h Pr G H σ v s _ (fun d w c1 G1 H1 hk g rd => kr d w c1 G1 H1 hk g rd) kx
theorem fs_drop (h : WpF Γ F c te ss (fun _ c1 => e.nx ss c1) e.x) : WpFS Γ F c (tDrop te) ss e := fun Pr G H σ v s D kn kr kx =>
  h Pr G H σ v s _ (fun d w c1 G1 H1 hk g rd => kn ss σ c1 G1 H1 hk g (s.mono g.g)) kx
theorem fs_if (h : WpFT Γ F c tt ss (fun b c1 => if b = true then WpFS Γ F c1 t ss e else WpFS Γ F c1 u ss e) e.x) : WpFS Γ F c (tIfS tt t u) ss e := fun Pr G H σ v s D kn kr kx =>
  h Pr G H σ v s _ (fun b c1 G1 H1 hb g => by
    cases b with
    | true => exact hb Pr G1 H1 σ g.vw (s.mono g.g) D (fun ss2 σ2 c2 G2 H2 z g2 s2 => kn ss2 σ2 c2 G2 H2 z (g.trans g2) s2) (fun d w c2 G2 H2 z g2 r2 => kr d w c2 G2 H2 z (g.trans g2) r2) (kx.on g.h)
    | false => exact hb Pr G1 H1 σ g.vw (s.mono g.g) D (fun ss2 σ2 c2 G2 H2 z g2 s2 => kn ss2 σ2 c2 G2 H2 z (g.trans g2) s2) (fun d w c2 G2 H2 z g2 r2 => kr d w c2 G2 H2 z (g.trans g2) r2) (kx.on g.h)) kx
theorem fs_while (I : Sd → α → Prop) (μ : α → Nat) (h0 : I ss c)
    (ht : ∀ s1 c1, I s1 c1 → WpFT Γ F c1 tt s1 (fun b c2 => if b = true then WpFS Γ F c2 t s1 ⟨fun s3 c3 => I s3 c3 ∧ μ c3 < μ c1, e.rt, e.x⟩ else e.nx s1 c2) e.x) : WpFS Γ F c (tWhile tt t) ss e := fun Pr G H σ v s D kn kr kx => by
  refine ⟨fun m σ' H' => ∃ s1 c1 G1, I s1 c1 ∧ m = μ c1 ∧ GoF F Pr G H c1 G1 H' ∧ Sl Γ.K G1 σ' s1, ⟨_, ss, c, G, h0, rfl, GoF.refl v, s⟩, ?_⟩
  rintro m σ1 H1 ⟨s1, c1, G1, hi, rfl, g, s'⟩
  refine ht s1 c1 hi Pr G1 H1 σ1 g.vw s' _ (fun b c2 G2 H2 hb g2 => ?_) (kx.on g.h)
  cases b with
  | false => exact kn s1 σ1 c2 G2 H2 hb (g.trans g2) (s'.mono g2.g)
  | true =>
    refine ⟨fun σ' H' => ∃ s3 c3 G3, (I s3 c3 ∧ μ c3 < μ c1) ∧ GoF F Pr G H c3 G3 H' ∧ Sl Γ.K G3 σ' s3, fun σ' H' ⟨s3, c3, G3, ⟨q1, q2⟩, q3, q4⟩ => ⟨μ c3, q2, s3, c3, G3, q1, rfl, q3, q4⟩, ?_⟩
    exact hb Pr G2 H2 σ1 g2.vw (s'.mono g2.g) _ (fun s3 σ3 c3 G3 H3 q g3 q4 => ⟨s3, c3, G3, q, (g.trans g2).trans g3, q4⟩) (fun d w c3 G3 H3 q g3 r => kr d w c3 G3 H3 q ((g.trans g2).trans g3) r) (kx.on fun b o n q => g2.h b o n (g.h b o n q))
/-- a loop over what is walked; the iterable touches no cell -/
theorem fs_for {wi : TI} {tg : TG} {vs : List Nat} (h : WpI (Γ.at Mode.no) wi ss (fun its => ∃ I : Nat → Sd → α → Prop, I 0 ss c ∧ (∀ i d s1 c1, its[i]? = some d → I i s1 c1 → ∃ s2, Tgt tg Γ.K vs s1 d s2 ∧ WpFS Γ F c1 t s2 ⟨I (i + 1), e.rt, e.x⟩) ∧ ∀ s1 c1, I its.length s1 c1 → e.nx s1 c1) e.x) :
    WpFS Γ F c (tFor wi tg t) ss e := fun Pr G H σ v s D kn kr kx => by
  refine h Pr G H σ (v.sub .no) s _ (fun its J G1 H1 ⟨I, h0, hstep, hend⟩ g1' src => ?_) fun z dd fs H' kp => kx z dd fs H' fun b o n e => kp b o (fun y => y) e
  have g1 : GoF F Pr G H c G1 H1 := .of (g1'.sub .no v)
  refine ⟨fun i m σ' H' => m = its.length - i ∧ i ≤ its.length ∧ ∃ s1 c1 G', I i s1 c1 ∧ GoF F Pr G1 H1 c1 G' H' ∧ Sl Γ.K G' σ' s1, ⟨_, rfl, Nat.zero_le _, ss, c, G1, h0, GoF.refl g1.vw, s.mono g1.g⟩, ?_⟩
  rintro i m σ' H' ⟨rfl, hi, s1, c1, G', hI, g, s'⟩
  obtain ⟨sgo, sst, syl⟩ := src H' (g.g.trans g.vw.sm) i
  by_cases hlt : i < its.length
  · obtain ⟨d, hd⟩ : ∃ d, its[i]? = some d := ⟨_, List.getElem?_eq_getElem hlt⟩
    refine .inr ⟨sgo hlt, fun σ2 H2 => i + 1 ≤ its.length ∧ ∃ s1 c1 G', I (i + 1) s1 c1 ∧ GoF F Pr G1 H1 c1 G' H2 ∧ Sl Γ.K G' σ2 s1, fun σ2 H2 q => ⟨its.length - (i + 1), by omega, rfl, q⟩, fun w H2 hy => ?_⟩
    have step : ∃ G2, GoF F Pr G' H' c1 G2 H2 ∧ DvR Γ.K G2 w d := by
      rcases syl d w H2 hd hy with ⟨e, r⟩ | ⟨T, o, hT, e, r⟩
      · subst e
        exact ⟨G', GoF.refl g.vw, r.mono g.g⟩
      · subst e
        exact ⟨_, .of (g.vw.new hT), r G' g.g (g.vw.sm.free hT)⟩
    obtain ⟨G2, g2, rd⟩ := step
    obtain ⟨s2, htg, hb⟩ := hstep i d s1 c1 hd hI
    refine htg G2 H2 σ' w g2.vw.sm (s'.mono g2.g) rd _ fun σ3 s3 _ => ?_
    have g12 := g.trans g2
    exact hb Pr G2 H2 σ3 g2.vw s3 _ (fun s4 σ4 c4 G4 H4 q g4 q4 => ⟨hlt, s4, c4, G4, q, g12.trans g4, q4⟩) (fun d w c3 G3 H3 q g3 r => kr d w c3 G3 H3 q ((g1.trans g12).trans g3) r) (kx.on fun b o n q => g12.h b o n (g1.h b o n q))
  · have e : i = its.length := by omega
    subst e
    exact .inl ⟨sst (Nat.le_refl _), kn s1 σ' c1 G' H' (hend s1 c1 hI) (g1.trans g) s'⟩
/-- out of the cells: a statement over one fixed mode -/
theorem fs_one {M : Mode} {e' : EndD} (h : WpFS Γ (Fam.one M) () t ss ⟨fun ss' _ => e'.nx ss', fun d _ => e'.rt d, e'.x⟩) : WpS (Γ.at M) t ss e' := fun Pr G H σ v s D kn kr kx =>
  h Pr G H σ ⟨v.sm, v.pr, v.ow, v.lf⟩ s D (fun ss' σ' _ G' H' z g s' => kn ss' σ' G' H' z ⟨⟨g.vw.sm, g.vw.pr, g.vw.ow, g.vw.lf⟩, g.g, g.h⟩ s') (fun d w _ G' H' z g r => kr d w G' H' z ⟨⟨g.vw.sm, g.vw.pr, g.vw.ow, g.vw.lf⟩, g.g, g.h⟩ r) fun z dd fs H' kp => kx z dd fs H' kp
end
/-! ### promises with cells -/
def spF {γ α : Type} (K : PySem.W.Frag) (C : Addr) (F : γ → Fam α) (arg : γ → List Dv) (A : γ → α → Prop) (P : γ → α → PyData → α → Prop) (X : γ → α → Prop) : Sp := fun vs H Q E => ∃ a c G Pr, A a c ∧ DvAll K G vs (arg a) ∧ Vw ((F a).at c) Pr G H ∧
  (∀ d v c' G' H', P a c d c' → GoF (F a) Pr G H c' G' H' → Dq K G' v d → Q v H') ∧ (X a c → ∀ (dd : Addr) (fs : List (Str × V)) (H' : Hp), (∀ b o, ¬ (F a).own b → H b = some o → H' b = some o) → H' dd = some (.xd fs) → E (.ref C) (some dd) H')
theorem spF_len {γ α : Type} {K : PySem.W.Frag} {C : Addr} {n : Nat} {F : γ → Fam α} {arg : γ → List Dv} {A : γ → α → Prop} {P : γ → α → PyData → α → Prop} {X : γ → α → Prop} (hA : ∀ a, (arg a).length = n) : ∀ (vs : List V) (H : Hp) (Q : VK) (E : XK), spF K C F arg A P X vs H Q E → vs.length = n :=
  fun vs H Q E ⟨a, c, G, Pr, ha, hv, _⟩ => (Paired.length hv).trans (hA a)
section
variable {P : Program} {w : World} {K : PySem.W.Frag} {mg : Str → Option Value} {base : Heap}
theorem FnI.ofF {γ α : Type} {x qual : Str} {params : Arguments} {body : List Stmt} {scope : Scope} {f : Addr} {fd : FuncData} {N ps : List Str} {k : Nat} {F : γ → Fam α} {arg : γ → List Dv} {A : γ → α → Prop} {Pm : γ → α → PyData → α → Prop} {Xm : γ → α → Prop}
    (D : FunD K x qual params body scope [] [] f fd) (S : FnScope N ps scope)
    (hb : ∀ (kV doc pm : Value) (an : Option Addr) (cdv ct : Value) (us : List Value), us.length = ps.length → bindArgs (PySem.W.fnOf x qual params body scope .none kV doc pm an cdv ct) ⟨us, []⟩ = pure (ps.zip us))
    (hA : ∀ a, (arg a).length = ps.length)
    (h : ∀ (cdv : Value) (A' : Around) (outer : List Env) (s : Shared) (H : Hp) (E : XK), Room k (A'.deeper (envOfC qual scope s.heap.objs.size f cdv)) → ∀ a c, A a c →
      ∃ t, PSs (cxOf (L2.CX P w) P w K mg base N qual scope f cdv A' outer s H E) body t ∧ WpFS ⟨K, E, CN K⟩ (F a) c t (startD N (arg a)) ⟨fun _ c' => Pm a c .none c', fun d c' => ∃ y, d = .d y ∧ Pm a c y c', Xm a c⟩) :
    FnI P w K mg base (k + 1) f (spF K (CN K) F arg A Pm Xm) := by
  refine ⟨fd, ps, D.ok S (spF_len hA) fun cdv A' outer s H vs Q E hr hs => ?_, D.bindsN hb, D.kp⟩
  obtain ⟨a, c, G, Pr, ha, hv, v, hq, hx⟩ := hs
  obtain ⟨t, ht, hw⟩ := h cdv A' outer s H E hr a c ha
  refine ⟨t, ht, ?_⟩
  refine hw Pr G H _ v (sl_start hv) _ (fun ss' σ' c' G' H' hp g _ => hq .none .non c' G' H' hp g .non) (fun d w c' G' H' ⟨y, ed, hp⟩ g rd => ?_) fun z dd fs H' k hd => hx z dd fs H' k hd
  subst ed
  exact hq y w c' G' H' hp g rd
end
end K84

/-! part K84V -/
set_option maxHeartbeats 2000000
/-! K84V: lists of a def's own, objects. -/
namespace K84
open PySem PySem.Spec PyProof.Rows L2
/-- what is told of a list's values -/
structure Cn (β : Type) where
  R : Hp → β → List V → Prop
  mono : ∀ {G G' : Hp} {b : β} {vs : List V}, Same G G' → R G b vs → R G' b vs
def cnD (K : PySem.W.Frag) : Cn (List PyData) := ⟨fun G xs vs => DqAll K G vs xs, fun s h => dqAll_mono s h⟩
def cnS : Cn (List Str) := ⟨fun _ zs vs => vs = zs.map V.str, fun _ h => h⟩
section
variable {α β : Type}
/-- a list of one's own at q -/
def Fam.cell (F : Fam α) (q : Addr) (N : Cn β) : Fam (α × β) := ⟨fun b => F.own b ∨ b = q, fun c G H => F.J c.1 G H ∧ ∃ vs, H q = some (.lst vs) ∧ N.R G c.2 vs,
  fun ⟨h, vs, e, r⟩ s k => ⟨F.st h s fun b o hb => k b o (.inl hb), vs, k _ _ (.inr rfl) e, N.mono s r⟩⟩
variable {F : Fam α} {N : Cn β} {q : Addr} {Pr : Addr → Prop} {G H G1 H1 : Hp} {c c1 : α} {b b1 : β}
theorem FSub.cell (hq : ¬ F.own q) : FSub F c (F.cell q N) (c, b) (fun d => (d, b)) :=
  ⟨fun _ h => .inl h, fun h => h.1, fun ⟨_, vs, e, r⟩ s k h => ⟨h, vs, k _ _ hq e, N.mono s r⟩⟩
/-- the list is rewritten -/
theorem GoF.put {vs : List V} (hq : ¬ F.own q) (hp : Pr q) (ho : ∀ x, F.own x → Pr x) (g : GoF F Pr G H c1 G1 H1) (r : N.R G1 b1 vs) : GoF (F.cell q N) Pr G H (c1, b1) G1 (upd H1 q (.lst vs)) := by
  have gq : G1 q = none := (g.vw.pr q hp).1
  refine ⟨⟨fun x o e => ?_, fun x hx => ?_, fun x hx => ?_, ?_⟩, g.g, fun x o n e => ?_⟩
  · rw [upd_ne (ne_of_none e gq)]
    exact g.vw.sm x o e
  · refine ⟨(g.vw.pr x hx).1, ?_⟩
    by_cases z : x = q
    · subst z
      rw [upd_same]
      exact ⟨_, rfl, fun _ y => nomatch y⟩
    · rw [upd_ne z]
      exact (g.vw.pr x hx).2
  · rcases hx with hx | hx
    · exact ho x hx
    · subst hx
      exact hp
  · refine ⟨F.st g.vw.lf (Same.refl _) fun x o hx e => ?_, vs, upd_same, r⟩
    rw [upd_ne (by intro z; subst z; exact hq hx)]
    exact e
  · rw [upd_ne (fun z => n (.inr z))]
    exact g.h x o (fun z => n (.inl z)) e
end
theorem map_erase {α β : Type} (f : α → β) : ∀ (l : List α) (n : Nat), (l.map f).eraseIdx n = (l.eraseIdx n).map f
  | [], _ => rfl
  | _ :: _, 0 => rfl
  | a :: l, n + 1 => congrArg (f a :: ·) (map_erase f l n)
theorem dvAll_strs {K : PySem.W.Frag} {G : Hp} : ∀ {zs : List Str} {vs : List V}, DvAll K G vs (zs.map fun z => .d (.str z)) → vs = zs.map V.str
  | [], _, .nil => rfl
  | z :: zs, _, .cons h t => by
    cases h
    rw [dvAll_strs t]
    rfl
/-- a method of a list changes it so -/
def Ch (K : PySem.W.Frag) (r : V → List V → Hp → VK → Prop) {β : Type} (N : Cn β) (b : β) (as : List Dv) (b' : β) : Prop := ∀ (G H : Hp) (us vs : List V) (q : Addr) (Q : VK), Same G H → N.R G b vs → DvAll K G us as → H q = some (.lst vs) → G q = none →
  (∀ vs' v, N.R G b' vs' → Q v (upd H q (.lst vs'))) → r (.ref q) us H Q
section
variable {K : PySem.W.Frag}
theorem ch_appD {xs : List PyData} {y : PyData} (hl : xs.length ≤ 1000) : Ch K rAppend (cnD K) xs [.d y] (xs ++ [y]) := fun G H us vs q Q s r ra hq gq h => by
  cases ra with
  | cons h1 t =>
    cases t
    exact ⟨q, vs, _, rfl, rfl, hq, by rw [dqAll_length r, sizeLine_eq]; omega, h _ _ (dqAll_app r (.cons h1 .nil))⟩
theorem ch_appS {zs : List Str} {z : Str} (hl : zs.length ≤ 1000) : Ch K rAppend cnS zs [.d (.str z)] (zs ++ [z]) := fun G H us vs q Q s r ra hq gq h => by
  have r' : vs = zs.map V.str := r
  subst r'
  cases ra with
  | cons h1 t =>
    cases t
    cases h1
    exact ⟨q, _, _, rfl, rfl, hq, by rw [List.length_map, sizeLine_eq]; omega, h _ _ (by show _ = _; rw [List.map_append]; rfl)⟩
theorem ch_extS {zs ys : List Str} (hl : zs.length ≤ 1000) (hy : ys.length ≤ 1000) : Ch K rExtend cnS zs [.d (.list (ys.map PyData.str))] (zs ++ ys) := fun G H us vs q Q s r ra hq gq h => by
  have r' : vs = zs.map V.str := r
  subst r'
  cases ra with
  | @cons v _ _ _ h1 t =>
    cases t
    have h1' : Dq K G v (.list (ys.map PyData.str)) := h1
    cases h1' with
    | @lst a ws _ hs ha =>
      have e := dqAll_strs ha
      subst e
      exact ⟨q, a, _, _, rfl, rfl, hq, s _ _ hs, by rw [List.length_map, List.length_map, sizeLine_eq]; omega, h _ _ (by show _ = _; rw [List.map_append])⟩
def rInsL : V → List V → Hp → VK → Prop := fun x vs H Q => ∃ (l : Addr) (xs : List V) (i : Int) (y : V), x = .ref l ∧ vs = [.int i, y] ∧ H l = some (.lst xs) ∧ xs.length < sizeLine ∧ 0 ≤ i ∧ i < 2 ^ 63 ∧
    Q .non (upd H l (.lst (xs.take i.toNat ++ [y] ++ xs.drop i.toNat)))
theorem mt_insL {X : Cx} : MtR X "list.insert" rInsL := mt_insert
theorem ch_insS {zs : List Str} {z : Str} {i : Int} (hl : zs.length ≤ 1000) (h0 : 0 ≤ i) (h1 : i ≤ 1000) : Ch K rInsL cnS zs [.d (.int i), .d (.str z)] (zs.take i.toNat ++ [z] ++ zs.drop i.toNat) := fun G H us vs q Q s r ra hq gq h => by
  have r' : vs = zs.map V.str := r
  subst r'
  cases ra with
  | cons h1' t =>
    cases h1'
    cases t with
    | cons h2 t2 =>
      cases t2
      cases h2
      exact ⟨q, _, i, _, rfl, rfl, hq, by rw [List.length_map, sizeLine_eq]; omega, h0, by omega, h _ _ (by show _ = _; rw [List.map_append, List.map_append, List.map_take, List.map_drop]; rfl)⟩
theorem ch_popS {zs : List Str} {i : Int} (hl : zs.length ≤ 1000) (h0 : 0 ≤ i) (h1 : i < zs.length) : Ch K rPopAt cnS zs [.d (.int i)] (zs.eraseIdx i.toNat) := fun G H us vs q Q s r ra hq gq h => by
  have r' : vs = zs.map V.str := r
  subst r'
  cases ra with
  | cons h1' t =>
    cases t
    cases h1'
    have hlt : i.toNat < zs.length := by omega
    refine ⟨q, _, i, i.toNat, .str (zs[i.toNat]), rfl, rfl, hq, by omega, by omega, ?_, by rw [List.getElem?_map, List.getElem?_eq_getElem hlt]; rfl, h _ _ (by show _ = _; exact map_erase _ zs _)⟩
    have hn : ¬ i < 0 := by omega
    simp [seqIndex?, hn, h0, h1]
end
section
variable {α β : Type} {Γ : Ctx0} {F : Fam α} {N : Cn β} {q : Addr} {c : α} {b : β} {ss : Sd} {k : Dv → α → Prop} {x : Prop} {te ti : TE} {tt : TT} {tr : TA} {t u : TS} {e : EndF (α × β)} {i : Nat}
theorem fs_bm {r : V → List V → Hp → VK → Prop} (hq : ¬ F.own q) (hi : ss[i]? = some (some (.r q))) (h : WpFA Γ F c tr ss (fun as c1 => ∃ b', Ch Γ.K r N b as b' ∧ e.nx ss (c1, b')) e.x) :
    WpFS Γ (F.cell q N) (c, b) (tDrop (tBM Γ.K "list" r (tVar i) tr)) ss e := fun Pr G H σ v s D kn kr kx => by
  obtain ⟨z, ez, rz⟩ := s.get hi
  have rz' : z = .ref q := rz
  subst rz'
  obtain ⟨vs, hv, rv⟩ := v.lf.2
  have v' := (FSub.cell (N := N) (c := c) (b := b) hq).vw v
  refine ⟨_, ez, .inl ⟨rfl, vs, SqL.of hv⟩, ?_⟩
  refine h Pr G H σ v' s _ (fun as us c1 G1 H1 ⟨b', hc, hn⟩ g rs => ?_) fun z dd fs H' kp => kx z dd fs H' fun b o n e => kp b o (fun y => n (.inl y)) e
  have hv1 : H1 q = some (.lst vs) := g.h q _ hq hv
  refine hc G1 H1 us vs q _ g.vw.sm (N.mono g.g rv) rs hv1 (g.vw.pr q (v.ow q (.inr rfl))).1 fun vs' w r' => ?_
  exact kn ss σ _ _ _ hn (g.put hq (v.ow q (.inr rfl)) (fun x hx => v.ow x (.inl hx)) r') (s.mono g.g)
/-- l[i] = a text -/
theorem fs_setI {zs : List Str} {e : EndF (α × List Str)} (hq : ¬ F.own q) (hi : ss[i]? = some (some (.r q)))
    (h : WpF Γ (F.cell q cnS) (c, zs) te ss (fun d c1 => ∃ z j, d = .d (.str z) ∧ c1.2 = zs ∧ Wp (Γ.at Mode.no) ti ss (fun d2 => d2 = .d (.int j)) False ∧ 0 ≤ j ∧ j < zs.length ∧ e.nx ss (c1.1, zs.set j.toNat z)) e.x) :
    WpFS Γ (F.cell q cnS) (c, zs) (tAsg te (gSub (tVar i) ti rSetL)) ss e := fun Pr G H σ v s D kn kr kx => by
  refine h Pr G H σ v s _ (fun d w c1 G1 H1 ⟨z, j, ed, ec, ht, h0, h1, hn⟩ g rd => ?_) kx
  subst ed
  cases rd
  have s1 := s.mono g.g
  obtain ⟨y, ey, ry⟩ := s1.get hi
  have ry' : y = .ref q := ry
  subst ry'
  refine ⟨_, ey, ?_⟩
  refine ht Pr G1 H1 σ (g.vw.sub .no) s1 _ (fun d2 w2 G2 H2 e2 g2 r2 => ?_) (fun z => z.elim)
  subst e2
  cases r2
  have g3 := g.trans (.of (g2.sub .no g.vw))
  obtain ⟨c1, zs'⟩ := c1
  have ec' : zs' = zs := ec
  subst ec'
  obtain ⟨hJ, vs, hv, rv⟩ := g3.vw.lf
  have rv' : vs = zs'.map V.str := rv
  subst rv'
  refine ⟨q, _, j, j.toNat, rfl, rfl, hv, ?_, ?_⟩
  · unfold ixN
    rw [if_pos h0, List.length_map, if_pos h1]
  · have g4 : GoF F Pr G1 H1 c1 G2 H2 := ⟨⟨g2.vw.sm, g2.vw.pr, fun x hx => v.ow x (.inl hx), hJ⟩, g2.g, fun x o _ e => g2.h.to_same x o e⟩
    have g5 := g4.put (N := cnS) (q := q) (b1 := zs'.set j.toNat z) (vs := (zs'.map V.str).set j.toNat (.str z)) hq (v.ow q (.inr rfl)) (fun x hx => v.ow x (.inl hx)) (by show _ = _; rw [List.map_set])
    exact kn ss σ _ _ _ hn (g.trans g5) (s1.mono g2.g)
/-- l[i], l[j] = two texts -/
theorem fs_set2 {t1 t2 : TE} {zs : List Str} {e : EndF (α × List Str)} (hq : ¬ F.own q) (hi : ss[i]? = some (some (.r q)))
    (h : WpF Γ (F.cell q cnS) (c, zs) te ss (fun d c1 => ∃ z1 z2 j1 j2, d = .d (.tuple [.str z1, .str z2]) ∧ c1 = (c, zs) ∧ Wp (Γ.at Mode.no) t1 ss (fun d2 => d2 = .d (.int j1)) False ∧ Wp (Γ.at Mode.no) t2 ss (fun d2 => d2 = .d (.int j2)) False ∧
      ∃ m1 m2, ixN zs.length j1 = some m1 ∧ ixN zs.length j2 = some m2 ∧ e.nx ss (c, (zs.set m1 z1).set m2 z2)) e.x) :
    WpFS Γ (F.cell q cnS) (c, zs) (tAsg te (gTup Γ.K 2 (gCons (gSub (tVar i) t1 rSetL) (gCons (gSub (tVar i) t2 rSetL) gNil)))) ss e := fun Pr G H σ v s D kn kr kx => by
  refine h Pr G H σ v s _ (fun d w c1 G1 H1 ⟨z1, z2, j1, j2, ed, ec, ht1, ht2, m1, m2, hm1, hm2, hn⟩ g rd => ?_) kx
  subst ed
  subst ec
  have rd' : Dq Γ.K G1 w (.tuple [.str z1, .str z2]) := rd
  cases rd' with
  | @tup a vs _ hs ha =>
    have hvs : vs = [.str z1, .str z2] := dqAll_strs (zs := [z1, z2]) ha
    subst hvs
    refine ⟨a, _, rfl, sqt_mono g.vw.sm hs, rfl, _, _, rfl, ?_⟩
    have s1 := s.mono g.g
    obtain ⟨y, ey, ry⟩ := s1.get hi
    have ry' : y = .ref q := ry
    subst ry'
    refine ⟨_, ey, ?_⟩
    refine ht1 Pr G1 H1 σ (g.vw.sub .no) s1 _ (fun d2 w2 G2 H2 e2 g2 r2 => ?_) (fun z => z.elim)
    subst e2
    cases r2
    have g3 := g.trans (.of (g2.sub .no g.vw))
    obtain ⟨hJ, vs, hv, rv⟩ := g3.vw.lf
    have rv' : vs = zs.map V.str := rv
    subst rv'
    have g4 : GoF F Pr G1 H1 c G2 H2 := ⟨⟨g2.vw.sm, g2.vw.pr, fun x hx => v.ow x (.inl hx), hJ⟩, g2.g, fun x o _ e => g2.h.to_same x o e⟩
    have g5 := g.trans (g4.put (N := cnS) (q := q) (b1 := zs.set m1 z1) (vs := (zs.map V.str).set m1 (.str z1)) hq (v.ow q (.inr rfl)) (fun x hx => v.ow x (.inl hx)) (by show _ = _; rw [List.map_set]))
    refine ⟨q, _, j1, m1, rfl, rfl, hv, by rw [List.length_map]; exact hm1, _, _, rfl, ?_⟩
    have s2 := s1.mono g2.g
    obtain ⟨y, ey, ry⟩ := s2.get hi
    have ry' : y = .ref q := ry
    subst ry'
    refine ⟨_, ey, ?_⟩
    refine ht2 Pr G2 _ σ (g5.vw.sub .no) s2 _ (fun d3 w3 G3 H3 e3 g6 r3 => ?_) (fun z => z.elim)
    subst e3
    cases r3
    have g7 := g5.trans (.of (g6.sub .no g5.vw))
    obtain ⟨hJ3, vs3, hv3, rv3⟩ := g7.vw.lf
    have rv3' : vs3 = (zs.set m1 z1).map V.str := rv3
    subst rv3'
    have g8 : GoF F Pr G2 (upd H2 q (.lst ((zs.map V.str).set m1 (.str z1)))) c G3 H3 := ⟨⟨g6.vw.sm, g6.vw.pr, fun x hx => v.ow x (.inl hx), hJ3⟩, g6.g, fun x o _ e => g6.h.to_same x o e⟩
    have g9 := g5.trans (g8.put (N := cnS) (q := q) (b1 := (zs.set m1 z1).set m2 z2) (vs := ((zs.set m1 z1).map V.str).set m2 (.str z2)) hq (v.ow q (.inr rfl)) (fun x hx => v.ow x (.inl hx)) (by show _ = _; rw [List.map_set (l := zs.set m1 z1)]))
    exact ⟨q, _, j2, m2, rfl, rfl, hv3, by rw [List.length_map, List.length_set]; exact hm2, rfl, kn ss σ _ _ _ hn g9 (s2.mono g6.g)⟩
end
/-! ### a new list -/
def Fresh {α β : Type} (Γ : Ctx0) (F : Fam α) (N : Cn β) (c : α) (te : TE) (ss : Sd) (k : β → α → Prop) (x : Prop) : Prop := ∀ Pr G H σ, Vw (F.at c) Pr G H → Sl Γ.K G σ ss → ∀ Q : VK,
  (∀ p vs b c' G' H', k b c' → GoF F Pr G H c' G' H' → H' p = none → N.R G' b vs → Q (.ref p) (upd H' p (.lst vs))) → WantsF Γ F x H → te σ H Q
section
variable {α β : Type} {Γ : Ctx0} {F : Fam α} {N : Cn β} {q : Addr} {c : α} {b : β} {ss : Sd} {k : Dv → α → Prop} {x : Prop} {ta tb te ti : TE} {tt : TT} {tr : TA} {t u : TS} {e : EndF α} {i : Nat}
theorem fr_lstD {K : PySem.W.Frag} {k : List PyData → α → Prop} (hK : Γ.K = K) (h : WpFA Γ F c tr ss (fun as c1 => ∃ xs, undD as = some xs ∧ xs.length ≤ 1000 ∧ k xs c1) x) : Fresh Γ F (cnD K) c (tLst tr) ss k x := fun Pr G H σ v s Q hq hx => by
  subst hK
  exact h Pr G H σ v s _ (fun as vs c1 G1 H1 ⟨xs, i, hl, hk⟩ g1 rs => ⟨by rw [dqAll_length (rs.dq (undD_is i)), sizeLine_eq]; omega, fun p hp => hq p vs xs c1 G1 H1 hk g1 hp (rs.dq (undD_is i))⟩) hx
theorem fr_lstS {k : List Str → α → Prop} (h : WpFA Γ F c tr ss (fun as c1 => ∃ zs : List Str, as = zs.map (fun z => .d (.str z)) ∧ zs.length ≤ 1000 ∧ k zs c1) x) : Fresh Γ F cnS c (tLst tr) ss k x := fun Pr G H σ v s Q hq hx =>
  h Pr G H σ v s _ (fun as vs c1 G1 H1 ⟨zs, i, hl, hk⟩ g1 rs => by
    subst i
    have e : vs = zs.map V.str := dvAll_strs rs
    subst e
    exact ⟨by rw [List.length_map, sizeLine_eq]; omega, fun p hp => hq p _ zs c1 G1 H1 hk g1 hp rfl⟩) hx
theorem fr_catS {k : List Str → α → Prop} (h : WpF Γ F c ta ss (fun d1 c1 => WpF Γ F c1 tb ss (fun d2 c2 => ∃ ys zs : List Str, d1 = .d (.list (ys.map PyData.str)) ∧ d2 = .d (.list (zs.map PyData.str)) ∧ ys.length + zs.length ≤ 1000 ∧ k (ys ++ zs) c2) x) x) :
    Fresh Γ F cnS c (tOp rCat ta tb) ss k x := fun Pr G H σ v s Q hq hx =>
  h Pr G H σ v s _ (fun d1 v1 c1 G1 H1 h1 g1 r1 => h1 Pr G1 H1 σ g1.vw (s.mono g1.g) _ (fun d2 v2 c2 G2 H2 ⟨ys, zs, e1, e2, hl, hk⟩ g2 r2 => by
    subst e1
    subst e2
    have r1' : Dq Γ.K G2 v1 (.list (ys.map PyData.str)) := r1.mono g2.g
    have r2' : Dq Γ.K G2 v2 (.list (zs.map PyData.str)) := r2
    cases r1' with
    | @lst a us _ hs ha =>
      cases r2' with
      | @lst b ws _ ht hb =>
        have ea := dqAll_strs ha
        have eb := dqAll_strs hb
        subst ea
        subst eb
        exact ⟨a, b, _, _, rfl, rfl, g2.vw.sm _ _ hs, g2.vw.sm _ _ ht, by rw [List.length_map, List.length_map, sizeLine_eq]; omega, fun p hp => hq p _ (ys ++ zs) c2 G2 H2 hk (g1.trans g2) hp (by show _ = _; rw [List.map_append])⟩) (hx.on g1.h)) hx
def rLstS (K : PySem.W.Frag) : List V → Hp → VK → Prop := fun xs H Q => ∃ p ys, xs = [.ref p] ∧ (SqL K H p ys ∨ SqT K H p ys) ∧ ∀ l, H l = none → Q (.ref l) (upd H l (.lst ys))
theorem call_lstS {X : Cx} : CallR X (.type "list") (rLstS X.K) := call_list_of
theorem fr_listS {k : List Str → α → Prop} (h : WpFA Γ F c tr ss (fun as c1 => ∃ zs : List Str, as = [.d (.list (zs.map PyData.str))] ∧ k zs c1) x) : Fresh Γ F cnS c (tCB (rLstS Γ.K) tr) ss k x := fun Pr G H σ v s Q hq hx =>
  h Pr G H σ v s _ (fun as vs c1 G1 H1 ⟨zs, i, hk⟩ g1 rs => by
    subst i
    cases rs with
    | @cons v _ _ _ h t =>
      cases t
      have h' : Dq Γ.K G1 v (.list (zs.map PyData.str)) := h
      cases h' with
      | @lst a ws _ hs ha =>
        have e := dqAll_strs ha
        subst e
        exact ⟨a, _, rfl, .inl (SqL.of (g1.vw.sm _ _ hs)), fun p hp => hq p _ zs c1 G1 H1 hk g1 hp rfl⟩) hx
/-- what an own list is when it is handed back -/
def OwnD {β : Type} (Γ : Ctx0) (N : Cn β) (f : β → List PyData) : Prop := ∀ (G : Hp) (b : β) (vs : List V), N.R G b vs → DqAll Γ.K G vs (f b)
theorem ownS : OwnD Γ cnS (fun zs => zs.map PyData.str) := fun G zs vs h => by
  have h' : vs = zs.map V.str := h
  subst h'
  exact dqAll_of_strs
theorem ownDD : OwnD Γ (cnD Γ.K) id := fun G zs vs h => h
/-- name = a new list; the rest knows it as its own -/
theorem fs_new {f : β → List PyData} (hf : OwnD Γ N f) (h : Fresh Γ F N c te ss (fun b c1 => ∀ q, ¬ F.own q → WpFS Γ (F.cell q N) (c1, b) u (ss.set i (some (.r q)))
      ⟨fun ss' s => e.nx ss' s.1, fun d s => (d = .r q ∧ e.rt (.d (.list (f s.2))) s.1) ∨ e.rt d s.1, e.x⟩) e.x) :
    WpFS Γ F c (tSeq (tAsg te (gName i)) u) ss e := fun Pr G H σ v s D kn kr kx =>
  h Pr G H σ v s _ (fun p vs b c1 G1 H1 hk g hp rv => by
    have gp : G1 p = none := g.vw.sm.free hp
    have np : ¬ Pr p := fun z => (g.vw.pr p z).2.ne hp
    have no : ¬ F.own p := fun z => np (v.ow p z)
    have hs : Solid (upd H1 p (.lst vs) p) := by
      rw [upd_same]
      exact ⟨_, rfl, fun _ y => nomatch y⟩
    have g1 : Go (F.at c1) Pr G1 H1 G1 (upd H1 p (.lst vs)) := g.vw.own hp
    have w0 := g1.vw.more gp hs
    have w1 : Vw ((F.cell p N).at (c1, b)) (fun y => Pr y ∨ y = p) G1 (upd H1 p (.lst vs)) := w0.as (fun y hy => hy.elim (fun z => .inl (v.ow y z)) .inr) ⟨g1.vw.lf, vs, upd_same, rv⟩
    have back : ∀ c2 b2 G2 H2, GoF (F.cell p N) (fun y => Pr y ∨ y = p) G1 (upd H1 p (.lst vs)) (c2, b2) G2 H2 → GoF F Pr G H c2 G2 H2 := fun c2 b2 G2 H2 g2 =>
      ⟨⟨g2.vw.sm, fun y hy => g2.vw.pr y (.inl hy), fun y hy => v.ow y hy, g2.vw.lf.1⟩, g.g.trans g2.g, fun y o n e => by
        have e1 := g.h y o n e
        have z : y ≠ p := fun z => by rw [z, hp] at e1; cases e1
        exact g2.h y o (fun w => w.elim n z) (by rw [upd_ne z]; exact e1)⟩
    refine hk p no _ G1 _ _ w1 (Sl.set (d := .r p) rfl i (s.mono g.g)) D (fun ss' σ' c2 G2 H2 hn g2 s2 => kn ss' σ' c2.1 G2 H2 hn (back c2.1 c2.2 G2 H2 g2) s2) (fun d w c2 G2 H2 hd g2 rd => ?_) fun z dd fs H' kp => kx z dd fs H' fun y o n e => ?_
    · rcases hd with ⟨ed, hr⟩ | hr
      · subst ed
        have ew : w = .ref p := rd
        subst ew
        obtain ⟨vs2, hv2, rv2⟩ := g2.vw.lf.2
        have hb := back c2.1 c2.2 G2 H2 g2
        have gp2 : G2 p = none := (g2.vw.pr p (.inr rfl)).1
        have kk := (g2.vw.as (M' := F.at c2.1) (fun y hy => .inl (v.ow y hy)) g2.vw.lf.1).know np hv2 v.ow
        refine kr _ _ c2.1 (upd G2 p (.lst vs2)) H2 hr ⟨kk, hb.g.trans (Same.know gp2), hb.h⟩ (.lst upd_same (dqAll_mono (Same.know gp2) (hf G2 c2.2 vs2 rv2)))
      · exact kr d w c2.1 G2 H2 hr (back c2.1 c2.2 G2 H2 g2) rd
    · have e1 := g.h y o n e
      have z : y ≠ p := fun z => by rw [z, hp] at e1; cases e1
      exact kp y o (fun w => w.elim n z) (by rw [upd_ne z]; exact e1)) kx
end
end K84

/-! part K84M -/
set_option maxHeartbeats 2000000
/-! K84M: what the defs compute, plain. -/
namespace K84
open PySem
abbrev lows : Str := "abcdefghijklmnopqrstuvwxyz"
abbrev figs : Str := "0123456789"
def lowB (c : Nat) : Bool := decide (c ∈ lows.cps.toList)
def figB (c : Nat) : Bool := decide (c ∈ figs.cps.toList)
/-- short enough, and of real signs -/
structure Sm (z : Str) : Prop where
  len : z.length ≤ 500
  ok : okS z = true
theorem Sm.lenD {z : Str} (h : Sm z) : lenD (.str z) = some z.length := if_pos (Nat.le_trans h.len (by decide))
/-- a whole number of at most 500 figures -/
def Bi (i : Int) : Prop := 0 ≤ i ∧ i < 10 ^ 500
def wordB (z : Str) : Bool := (decide (1 ≤ z.length) && decide (z.length ≤ 12)) && z.cps.toList.all lowB
abbrev Nm : Type := Str × Str × Int
def nameB (p : Nm) : Bool := (wordB p.1 && wordB p.2.1) && decide (1 ≤ p.2.2)
abbrev nameD (p : Nm) : PyData := .tuple [.str p.1, .str p.2.1, .int p.2.2]
def NmOk (p : Nm) : Prop := Sm p.1 ∧ Sm p.2.1
theorem nameD_inj : ∀ a b : Nm, nameD a = nameD b → a = b := fun ⟨a, b, c⟩ ⟨x, y, z⟩ e => by
  have e := PyData.tuple.inj e
  simp at e
  obtain ⟨rfl, rfl, rfl⟩ := e
  rfl
def houseB (z : Str) : Bool := wordB z && !decide (z = "bell")
def clauseB (i : Int) : Bool := decide (0 ≤ i) && decide (i ≤ 11)
/-- a part of a claim -/
inductive Part where
  | nm (p : Nm) | nu (i : Int)
def Part.D : Part → PyData
  | .nm p => nameD p
  | .nu i => .int i
def Part.Ok : Part → Prop
  | .nm p => NmOk p
  | .nu _ => True
/-- what a part of a sort is -/
def Part.Fits : Part → Str → Prop
  | .nm _, s => s = "name"
  | .nu _, s => s ≠ "name"
def sortB : Part → Str → Bool
  | .nm p, _ => nameB p
  | .nu i, s => decide (0 ≤ i) && (decide (s = "time") || decide (i ≤ 11))
/-- a deed as it is read -/
inductive Deed where
  | say (ws : List Str)
  | hand (c : Int) (h : Str)
  | oth (w : Option Str) (ns : List Int)
def Deed.L : Deed → List PyData
  | .say ws => PyData.str "say" :: ws.map PyData.str
  | .hand c h => [.str "hand", .int c, .str h]
  | .oth none ns => ns.map PyData.int
  | .oth (some w) ns => .str w :: ns.map PyData.int
def Deed.Ok : Deed → Prop
  | .say ws => ∀ z ∈ ws, Sm z
  | .hand _ h => Sm h
  | .oth none ns => ns = []
  | .oth (some w) _ => Sm w ∧ w ≠ "say" ∧ w ≠ "hand"
def deedB : Deed → Bool
  | .say [x] => wordB x
  | .say _ => false
  | .hand c h => clauseB c && houseB h
  | .oth (some w) [] => decide (w = "join" ∨ w = "note")
  | .oth (some w) [c] => clauseB c && decide (w ∈ (["free", "ready", "quit"] : List Str))
  | .oth (some w) [c, p] => clauseB c && (decide (w = "do") && (decide (0 ≤ p) && decide (p ≤ 8)))
  | .oth _ _ => false

/-! ### numbers, names -/
theorem nil_str {z : Str} : z.cps.toList = [] ↔ z = "" := by
  constructor
  · intro h
    exact TL.ext_tl h
  · intro h
    rw [h]
    rfl
def numOk (z : Str) : Bool := !decide (z = "") && (z.cps.toList.all figB && !(decide (z.cps.toList.head? = some 48) && !decide (z = "0")))
def numVal (z : Str) : Int := (intText? z).getD 0
def numB (z : Str) : Option Int := if numOk z = true then some (numVal z) else none
theorem figB_digit {c : Nat} (h : figB c = true) : 48 ≤ c ∧ c ≤ 57 := by
  have h1 := of_decide_eq_true h
  have e : figs.cps.toList = [48, 49, 50, 51, 52, 53, 54, 55, 56, 57] := by decide +kernel
  rw [e] at h1
  simp at h1
  omega
theorem digits_of_figs {z : Str} (h : z.cps.toList.all figB = true) : NumText.AllDigits z.cps.toList := fun c hc => figB_digit (List.all_eq_true.mp h c hc)
theorem numOk_parts {z : Str} (h : numOk z = true) : z ≠ "" ∧ z.cps.toList.all figB = true ∧ (z.cps.toList.head? = some 48 → z = "0") := by
  unfold numOk at h
  simp only [Bool.and_eq_true, Bool.not_eq_true', decide_eq_false_iff_not, Bool.and_eq_false_iff, Bool.not_eq_false'] at h
  obtain ⟨h1, h2, h3⟩ := h
  refine ⟨h1, h2, fun e => ?_⟩
  rcases h3 with h3 | h3
  · exact absurd e h3
  · exact of_decide_eq_true h3
theorem text_digits {z : Str} (h1 : z ≠ "") (h2 : z.cps.toList.all figB = true) (hl : z.length ≤ 500) : intText? z = some ((NumText.digitsVal z.cps.toList : Nat) : Int) :=
  PySem.intText_digits (digits_of_figs h2) (fun e => h1 (nil_str.mp e)) (by omega)
theorem numVal_eq {z : Str} (h1 : z ≠ "") (h2 : z.cps.toList.all figB = true) (hl : z.length ≤ 500) : intText? z = some (numVal z) := by
  unfold numVal
  rw [text_digits h1 h2 hl]
  rfl
theorem numVal_nat {z : Str} (h : numOk z = true) (hl : z.length ≤ 500) : numVal z = ((NumText.digitsVal z.cps.toList : Nat) : Int) := by
  obtain ⟨h1, h2, _⟩ := numOk_parts h
  unfold numVal
  rw [text_digits h1 h2 hl]
  rfl
def wholeB (z : Str) (lo hi : Int) : Option Int := if numOk z = true ∧ (lo ≤ numVal z ∧ numVal z ≤ hi) then some (numVal z) else none
def optI : Option Int → PyData
  | none => .none
  | some i => .int i
def nameOf (z : Str) : Option Nm := match Txt.split z "." with
  | [a, b, c] => (numB c).map fun n => (a, b, n)
  | _ => none
def namedB : List Str → Option Nm
  | [a, b, c] => if wordB a = true ∧ wordB b = true then (wholeB c 1 (10 ^ 60)).map fun n => (a, b, n) else none
  | _ => none
def optN : Option Nm → PyData
  | none => .none
  | some p => nameD p
def deedOf (ws : List Str) : Option Deed :=
  if ws.take 1 = [("say" : Str)] then some (.say (ws.drop 1))
  else if ws.take 1 = [("hand" : Str)] then (if ws.length ≠ 4 ∨ ws.getD 2 "" ≠ "to" then none else (numB (ws.getD 1 "")).map fun c => .hand c (ws.getD 3 ""))
  else ((ws.drop 1).mapM numB).map fun ns => .oth ws.head? ns

theorem ok_sign {z : Str} {c : Nat} {r : List Nat} (h : okS z = true) (e : z.cps.toList = c :: r) : okS ⟨#[c]⟩ = true := by
  have h1 : z.cps.toList.all (· < 0x110000) = true := by
    have h2 : z.cps.all (· < 0x110000) = true := h
    rw [← Array.all_toList] at h2
    exact h2
  rw [e, List.all_cons, Bool.and_eq_true] at h1
  show (#[c] : Array Nat).all (· < 0x110000) = true
  simpa using h1.1
theorem sign_zero (c : Nat) : ((⟨#[c]⟩ : Str) = "0") ↔ c = 48 := by
  constructor
  · intro h
    have e : (#[c] : Array Nat) = #[48] := congrArg Str.cps h
    simpa using e
  · intro h
    rw [h]
    rfl
theorem numOk_of {z : Str} {c : Nat} {r : List Nat} (e : z.cps.toList = c :: r) (h1 : z ≠ "") (h2 : z.cps.toList.all figB = true) (h3 : ¬ (c = 48 ∧ z ≠ "0")) : numOk z = true := by
  have h4 : c = 48 → z = "0" := fun hc => Classical.byContradiction fun hz => h3 ⟨hc, hz⟩
  have h5 : (c :: r).head? = some c := rfl
  unfold numOk
  rw [h2, e, h5]
  by_cases hc : c = 48
  · have hz := h4 hc
    have e1 : decide (z = "") = false := decide_eq_false h1
    have e2 : decide (z = "0") = true := decide_eq_true hz
    rw [e1, e2]
    simp
  · have e1 : decide (z = "") = false := decide_eq_false h1
    rw [e1]
    simp [hc]
theorem numOk_no {z : Str} {c : Nat} {r : List Nat} (e : z.cps.toList = c :: r) (h3 : c = 48 ∧ z ≠ "0") : numOk z = false := by
  have h5 : (c :: r).head? = some c := rfl
  unfold numOk
  rw [e, h5, decide_eq_false h3.2, h3.1]
  simp

/-! ### letters -/
def ltN (a b : Nm) : Bool := PySem.W.dataLt (nameD a) (nameD b)
def adjB : List Nm → Bool
  | a :: b :: r => ltN a b && adjB (b :: r)
  | _ => true
def gotsB (gs : List Nm) (h d : Str) : Bool := decide (gs.length ≤ 30) && (gs.all nameB && (gs.all (fun g => !decide ([g.1, g.2.1] = [h, d])) && adjB gs))
structure Letter where
  name : Nm
  prev : Int
  gots : List Nm
  time : Int
  deed : Deed
def Letter.D (l : Letter) : PyData := .tuple [.str l.name.1, .str l.name.2.1, .int l.name.2.2, .int l.prev, .tuple (l.gots.map nameD), .int l.time, .tuple l.deed.L]
structure Letter.Ok (l : Letter) : Prop where
  name : NmOk l.name
  gots : ∀ g ∈ l.gots, NmOk g
  glen : l.gots.length ≤ 1000
  deed : l.deed.Ok
  dlen : l.deed.L.length ≤ 1000
def letterB (l : Letter) : Bool := nameB l.name && (decide (0 ≤ l.prev) && (decide (0 ≤ l.time) && (gotsB l.gots l.name.1 l.name.2.1 && deedB l.deed)))
theorem adj_range : ∀ gs : List Nm, ((List.range (gs.length - 1)).all fun i => ltN (gs.getD i ("", "", 0)) (gs.getD (i + 1) ("", "", 0))) = adjB gs
  | [] => rfl
  | [a] => rfl
  | a :: b :: r => by
    have ih := adj_range (b :: r)
    have e : (a :: b :: r).length - 1 = (b :: r).length - 1 + 1 := by simp
    rw [e, List.range_succ_eq_map, List.all_cons, List.all_map]
    show (ltN a b && _) = (ltN a b && adjB (b :: r))
    rw [← ih]
    rfl

theorem Part.D_inj : ∀ a b : Part, a.D = b.D → a = b
  | .nm p, .nm q, h => by rw [nameD_inj p q h]
  | .nu i, .nu j, h => by rw [PyData.int.inj h]
  | .nm p, .nu j, h => by cases h
  | .nu i, .nm q, h => by cases h
/-- a claim as it is read -/
structure Claim where
  word : Str
  parts : List (Part × Str)
def Claim.D (c : Claim) : PyData := .tuple (.str c.word :: c.parts.map fun p => p.1.D)
structure Claim.Ok (c : Claim) : Prop where
  sh : (c.word, c.parts.map (·.2)) ∈ shapes
  parts : ∀ p ∈ c.parts, p.1.Ok ∧ p.1.Fits p.2
def claimB (c : Claim) : Bool := c.parts.all fun p => sortB p.1 p.2
theorem shapes_ok {q : Str × List Str} (h : q ∈ shapes) : okS q.1 = true ∧ (∀ z ∈ q.2, okS z = true) ∧ q.2.length ≤ 3 ∧ q.1.length ≤ 10 := by
  have e : ∀ q ∈ shapes, okS q.1 = true ∧ (∀ z ∈ q.2, okS z = true) ∧ q.2.length ≤ 3 ∧ q.1.length ≤ 10 := by decide +kernel
  exact e q h
end K84

/-! part K84S -/
set_option maxHeartbeats 2000000
/-! K84S: texts cut at one sign, joined by one sign. -/
namespace K84
open PySem TL
theorem pre1 (s c : Nat) (r : List Nat) : pre [s] (c :: r) = (c == s) := by
  show ([c] == [s]) = (c == s)
  simp
theorem spl1_nil (s : Nat) (acc : List Nat) : spl [s] 0 acc [] = [acc] := rfl
theorem spl1_cons (s c : Nat) (acc r : List Nat) : spl [s] 0 acc (c :: r) = if c = s then acc :: spl [s] 0 [] r else spl [s] 0 (acc ++ [c]) r := by
  by_cases h : c = s
  · rw [if_pos h, spl_hit (by rw [pre1]; simp [h])]
    rfl
  · rw [if_neg h, spl_miss (by rw [pre1]; simp [h])]
theorem spl1_mem (s : Nat) : ∀ (l acc p : List Nat), p ∈ spl [s] 0 acc l → p.length ≤ acc.length + l.length ∧ ∀ c ∈ p, c ∈ acc ∨ c ∈ l
  | [], acc, p, h => by
    rw [spl1_nil, List.mem_singleton] at h
    subst h
    exact ⟨Nat.le_add_right _ _, fun c hc => .inl hc⟩
  | c :: r, acc, p, h => by
    rw [spl1_cons] at h
    by_cases hc : c = s
    · rw [if_pos hc] at h
      rcases List.mem_cons.mp h with h | h
      · subst h
        exact ⟨Nat.le_add_right _ _, fun c hc => .inl hc⟩
      · obtain ⟨h1, h2⟩ := spl1_mem s r [] p h
        refine ⟨by simp at h1 ⊢; omega, fun d hd => ?_⟩
        rcases h2 d hd with h | h
        · cases h
        · exact .inr (List.mem_cons_of_mem _ h)
    · rw [if_neg hc] at h
      obtain ⟨h1, h2⟩ := spl1_mem s r _ p h
      refine ⟨by simp at h1 ⊢; omega, fun d hd => ?_⟩
      rcases h2 d hd with h | h
      · rcases List.mem_append.mp h with h | h
        · exact .inl h
        · exact .inr (by rw [List.mem_singleton.mp h]; exact List.mem_cons_self)
      · exact .inr (List.mem_cons_of_mem _ h)
theorem spl1_ne (s : Nat) : ∀ (l acc : List Nat), spl [s] 0 acc l ≠ []
  | [], _ => by rw [spl1_nil]; simp
  | c :: r, acc => by
    rw [spl1_cons]
    split
    · simp
    · exact spl1_ne s r _
theorem joinL_cons (S p : List Nat) {ps : List (List Nat)} (h : ps ≠ []) : joinL S (p :: ps) = p ++ S ++ joinL S ps := by
  cases ps with
  | nil => exact absurd rfl h
  | cons q qs => simp [joinL]
theorem spl1_join (s : Nat) : ∀ (l acc : List Nat), joinL [s] (spl [s] 0 acc l) = acc ++ l
  | [], acc => by rw [spl1_nil]; simp [joinL]
  | c :: r, acc => by
    rw [spl1_cons]
    by_cases hc : c = s
    · rw [if_pos hc, joinL_cons _ _ (spl1_ne s r []), spl1_join s r [], hc]
      simp
    · rw [if_neg hc, spl1_join s r (acc ++ [c])]
      simp
/-- cut at one plain sign -/
theorem split1 (z y : Str) {s : Nat} (hy : tl y = [s]) (hs : s < 256) : (Txt.split z y).map tl = spl [s] 0 [] (tl z) := by
  have h := split_spl z y (by rw [hy]; simp) (kind_ok (by
    have e : y.cps.toList = [s] := hy
    rw [← Array.all_toList, e]
    simp [hs]))
  rw [hy] at h
  exact h
theorem dot_tl : tl "." = [46] := by decide +kernel
theorem blank_tl : tl " " = [32] := by decide +kernel
theorem split_mem {z y p : Str} {s : Nat} (hy : tl y = [s]) (hs : s < 256) (h : p ∈ Txt.split z y) : (tl p).length ≤ (tl z).length ∧ ∀ c ∈ tl p, c ∈ tl z := by
  have h1 : tl p ∈ spl [s] 0 [] (tl z) := by
    rw [← split1 z y hy hs]
    exact List.mem_map.mpr ⟨p, h, rfl⟩
  obtain ⟨h2, h3⟩ := spl1_mem s _ _ _ h1
  refine ⟨by simpa using h2, fun c hc => ?_⟩
  rcases h3 c hc with h | h
  · cases h
  · exact h
theorem okS_iff (z : Str) : okS z = true ↔ ∀ c ∈ tl z, c < 0x110000 := by
  show z.cps.all (· < 0x110000) = true ↔ _
  rw [← Array.all_toList, List.all_eq_true]
  constructor
  · intro h c hc
    exact of_decide_eq_true (h c hc)
  · intro h c hc
    exact decide_eq_true (h c hc)
theorem Sm.sub {z p : Str} (h : Sm z) (hl : (tl p).length ≤ (tl z).length) (hm : ∀ c ∈ tl p, c ∈ tl z) : Sm p := by
  refine ⟨?_, (okS_iff p).mpr fun c hc => (okS_iff z).mp h.ok c (hm c hc)⟩
  have := h.len
  rw [len_tl] at this ⊢
  omega
theorem split_Sm {z y p : Str} {s : Nat} (hy : tl y = [s]) (hs : s < 256) (hz : Sm z) (h : p ∈ Txt.split z y) : Sm p :=
  let q := split_mem hy hs h
  hz.sub q.1 q.2

theorem mapM_none {α β : Type} {f : α → Option β} : ∀ {l : List α} {a : α}, a ∈ l → f a = none → l.mapM f = none
  | b :: l, a, h, e => by
    rw [List.mapM_cons]
    rcases List.mem_cons.mp h with h | h
    · subst h
      rw [e]
      rfl
    · rw [mapM_none h e]
      cases f b <;> rfl
theorem paired_len {α β : Type} {f : α → Option β} : ∀ {l : List α} {ys : List β}, l.mapM f = some ys → ys.length = l.length
  | [], ys, h => by
    cases h
    rfl
  | a :: l, ys, h => by
    rw [List.mapM_cons] at h
    cases e : f a with
    | none =>
      rw [e] at h
      cases h
    | some b =>
      rw [e] at h
      cases e2 : l.mapM f with
      | none =>
        rw [e2] at h
        cases h
      | some zs =>
        rw [e2] at h
        have := paired_len e2
        cases h
        simp [this]
theorem mapM_then {α β γ : Type} {f : α → Option β} {g : β → γ} : ∀ {l : List α} {ys : List γ}, l.mapM (fun a => (f a).map g) = some ys → ∃ ns, l.mapM f = some ns ∧ ys = ns.map g
  | [], ys, h => by
    cases h
    exact ⟨[], rfl, rfl⟩
  | a :: l, ys, h => by
    rw [List.mapM_cons] at h
    cases e : f a with
    | none =>
      rw [e] at h
      cases h
    | some b =>
      rw [e] at h
      cases e2 : l.mapM (fun a => (f a).map g) with
      | none =>
        rw [e2] at h
        cases h
      | some zs =>
        rw [e2] at h
        obtain ⟨ns, h1, h2⟩ := mapM_then e2
        cases h
        refine ⟨b :: ns, ?_, by rw [h2]; rfl⟩
        rw [List.mapM_cons, e, h1]
        rfl

/-! ### numbers as texts -/
theorem Bi.log {i : Int} (h : Bi i) : i.natAbs.log2 < 1920 := by
  have h1 : i.natAbs < 10 ^ 500 := by have := h.1; have := h.2; omega
  have h2 : (10 : Nat) ^ 500 ≤ 2 ^ 1661 := by decide +kernel
  by_cases h0 : i.natAbs = 0
  · rw [h0]; decide
  · exact Nat.lt_of_lt_of_le (Nat.log2_lt h0 |>.mpr (Nat.lt_of_lt_of_le h1 h2)) (by decide)
/-- a number's text -/
def numT (i : Int) : Str := Str.ofString (toString i)
theorem numT_tl {i : Int} (h : 0 ≤ i) : tl (numT i) = numL i.toNat := by
  obtain ⟨n, rfl⟩ : ∃ n : Nat, i = (n : Int) := ⟨i.toNat, by omega⟩
  exact tl_num n
theorem numT_Sm {i : Int} (h : Bi i) : Sm (numT i) := by
  have e := numT_tl h.1
  refine ⟨?_, (okS_iff _).mpr fun c hc => ?_⟩
  · rw [len_tl, e]
    exact numL_len (by decide) (by have := h.1; have := h.2; omega)
  · rw [e] at hc
    have := numL_digits i.toNat c hc
    omega
theorem Sm_app {x y : Str} {n : Nat} (hx : Sm x) (hy : Sm y) : okS (x ++ y) = true := (okS_iff _).mpr fun c hc => by
  rw [tl_append] at hc
  rcases List.mem_append.mp hc with h | h
  · exact (okS_iff x).mp hx.ok c h
  · exact (okS_iff y).mp hy.ok c h
theorem len_app (x y : Str) : (x ++ y).length = x.length + y.length := by rw [len_tl, len_tl, len_tl, tl_append, List.length_append]
def nameT (p : Nm) : Str := p.1 ++ "." ++ p.2.1 ++ "." ++ numT p.2.2
/-- an item that str is asked of -/
inductive It2 where
  | s (z : Str) | i (n : Int)
def It2.D : It2 → PyData
  | .s z => .str z
  | .i n => .int n
def It2.T : It2 → Str
  | .s z => z
  | .i n => numT n
def It2.Ok : It2 → Prop
  | .s z => Sm z
  | .i n => Bi n
theorem It2.D_inj : ∀ a b : It2, a.D = b.D → a = b
  | .s x, .s y, h => by rw [PyData.str.inj h]
  | .i x, .i y, h => by rw [PyData.int.inj h]
  | .s x, .i y, h => by cases h
  | .i x, .s y, h => by cases h
theorem It2.T_Sm : ∀ {a : It2}, a.Ok → Sm a.T
  | .s z, h => h
  | .i n, h => numT_Sm h
/-- the words of a text -/
def wordsOf (z : Str) : List Str := (Txt.split z " ").filter fun p => !decide (p = "")

theorem spl1_len (s : Nat) : ∀ (l acc : List Nat), (spl [s] 0 acc l).length ≤ l.length + 1
  | [], acc => by rw [spl1_nil]; simp
  | c :: r, acc => by
    rw [spl1_cons]
    split
    · have := spl1_len s r []
      simp
      omega
    · have := spl1_len s r (acc ++ [c])
      simp
      omega
theorem split_len {z y : Str} {s : Nat} (hy : tl y = [s]) (hs : s < 256) : (Txt.split z y).length ≤ z.length + 1 := by
  have e : (Txt.split z y).length = ((Txt.split z y).map tl).length := (List.length_map ..).symm
  rw [e, split1 z y hy hs, len_tl]
  exact spl1_len s _ _
theorem split_ok {z y p : Str} {s : Nat} (hy : tl y = [s]) (hs : s < 256) (hz : okS z = true) (h : p ∈ Txt.split z y) : okS p = true :=
  (okS_iff p).mpr fun c hc => (okS_iff z).mp hz c ((split_mem hy hs h).2 c hc)
end K84

/-! part K84U -/
set_option maxHeartbeats 2000000
/-! K84U: an own list looked at; the object Words. -/
namespace K84
open PySem PySem.Spec PyProof.Rows L2
def scal : PyData → Bool
  | .none => true
  | .bool _ => true
  | .int _ => true
  | .str _ => true
  | _ => false
def flat : Dv → Bool
  | .d (.tuple ds) => ds.all scal
  | .d x => scal x
  | _ => false
section
variable {α β : Type}
def Fam.GFree (F : Fam α) : Prop := ∀ (c : α) (G G' H : Hp), F.J c G H → F.J c G' H
theorem gf_cell {F : Fam α} {q : Addr} {N : Cn β} (gN : ∀ (G G' : Hp) (b : β) (vs : List V), N.R G b vs → N.R G' b vs) (h : F.GFree) : (F.cell q N).GFree := fun c G G' H ⟨a, vs, b, e⟩ => ⟨h _ _ _ _ a, vs, b, gN _ _ _ _ e⟩
theorem gf_no : (Fam.one Mode.no).GFree := fun _ _ _ _ h => h
theorem gf_draws {l : Addr} : (Fam.one (Mode.draws l)).GFree := fun _ _ _ _ h => h
variable {K : PySem.W.Frag} {G G' H : Hp} {q : Addr}
theorem scal_any {v : V} {x : PyData} (hx : scal x = true) (h : Dq K G v x) : Dq K G' v x := by
  cases h with
  | non => exact .non
  | bl b => exact .bl b
  | int i => exact .int i
  | str z => exact .str z
  | lst _ _ => cases hx
  | tup _ _ => cases hx
theorem scal_all : ∀ {vs : List V} {xs : List PyData}, xs.all scal = true → DqAll K G vs xs → DqAll K G' vs xs
  | _, _, _, .nil => .nil
  | _, _, h, .cons a b => by
    rw [List.all_cons, Bool.and_eq_true] at h
    exact .cons (scal_any h.1 a) (scal_all h.2 b)
theorem flat_less {v : V} {d : Dv} {vs : List V} (hd : flat d = true) (hq : G q = some (.lst vs)) (hk : ∀ y o, y ≠ q → G y = some o → G' y = some o) (h : DvR K G v d) : DvR K G' v d := by
  cases d with
  | d x =>
    have h' : Dq K G v x := h
    cases h' with
    | @tup a us ds hs ha =>
      refine Dq.tup ?_ (scal_all hd ha)
      rcases hs with (hs | ⟨o, hs⟩) | hs
      · refine .inl (.inl (hk _ _ (fun z => ?_) hs))
        rw [z, hq] at hs
        cases hs
      · refine .inl (.inr ⟨o, hk _ _ (fun z => ?_) hs⟩)
        rw [z, hq] at hs
        cases hs
      · exact .inr hs
    | lst _ _ => cases hd
    | non => exact .non
    | bl b => exact .bl b
    | int i => exact .int i
    | str z => exact .str z
  | r a => exact h
  | e C => cases hd
end
section
variable {α β : Type} {Γ : Ctx0} {F : Fam α} {N : Cn β} {q : Addr} {c : α} {b : β} {zs : List Str} {ss : Sd} {k : Dv → α → Prop} {x : Prop} {ta tb te ti : TE} {tt : TT} {tr : TA} {t u : TS} {i : Nat} {Pr : Addr → Prop} {G H G1 H1 : Hp}
/-- a list that is known for a while -/
theorem peek_in {f : β → List PyData} (hf : OwnD Γ N f) (hq : ¬ F.own q) (hi : ss[i]? = some (some (.r q))) {σ : L2.St} (v : Vw ((F.cell q N).at (c, b)) Pr G H) (s : Sl Γ.K G σ ss) :
    ∃ vs, H q = some (.lst vs) ∧ N.R G b vs ∧ G q = none ∧ Vw (F.at c) (fun y => Pr y ∧ y ≠ q) (upd G q (.lst vs)) H ∧ Sl Γ.K (upd G q (.lst vs)) σ (ss.set i (some (.d (.list (f b))))) := by
  obtain ⟨hJ, vs, hv, rv⟩ := v.lf
  have gq : G q = none := (v.pr q (v.ow q (.inr rfl))).1
  have sg : Same G (upd G q (.lst vs)) := Same.know gq
  refine ⟨vs, hv, rv, gq, ⟨fun y o e => ?_, fun y hy => ?_, fun y hy => ⟨v.ow y (.inl hy), by intro z; subst z; exact hq hy⟩, F.st hJ sg fun _ _ _ e => e⟩, ?_⟩
  · by_cases z : y = q
    · subst z
      rw [upd_same] at e
      rw [hv]
      exact e
    · rw [upd_ne z] at e
      exact v.sm y o e
  · rw [upd_ne hy.2]
    exact v.pr y hy.1
  · obtain ⟨z, ez, rz⟩ := s.get hi
    have rz' : z = .ref q := rz
    subst rz'
    have s2 := Sl.set (K := Γ.K) (G := upd G q (.lst vs)) (v := .ref q) (d := .d (.list (f b))) (.lst upd_same (dqAll_mono sg (hf G b vs rv))) i (s.mono sg)
    have es : σ.set i (some (.ref q)) = σ := by
      obtain ⟨hlt, he⟩ := List.getElem?_eq_some_iff.mp ez
      rw [← he, List.set_getElem_self]
    rw [es] at s2
    exact s2
def less (G : Hp) (q : Addr) : Hp := fun y => if y = q then none else G y
theorem less_ne {y : Addr} (h : y ≠ q) : less G q y = G y := if_neg h
/-- what is told of the values needs no heap -/
def Cn.Free (N : Cn β) : Prop := ∀ (G G' : Hp) (b : β) (vs : List V), N.R G b vs → N.R G' b vs
theorem free_S : cnS.Free := fun _ _ _ _ h => h
theorem peek_out {vs : List V} (gN : N.Free) (gf : F.GFree) (hq : ¬ F.own q) {c1 : α} (v : Vw ((F.cell q N).at (c, b)) Pr G H) (hv : H q = some (.lst vs)) (gq : G q = none) (rv : N.R G b vs) (g : GoF F (fun y => Pr y ∧ y ≠ q) (upd G q (.lst vs)) H c1 G1 H1) :
    G1 q = some (.lst vs) ∧ GoF (F.cell q N) Pr G H (c1, b) (less G1 q) H1 := by
  have e1 : G1 q = some (.lst vs) := g.g q _ upd_same
  refine ⟨e1, ⟨fun y o e => ?_, fun y hy => ?_, v.ow, ?_⟩, fun y o e => ?_, fun y o n e => g.h y o (fun z => n (.inl z)) e⟩
  · by_cases z : y = q
    · subst z
      rw [less, if_pos rfl] at e
      cases e
    · rw [less_ne z] at e
      exact g.vw.sm y o e
  · by_cases z : y = q
    · subst z
      exact ⟨if_pos rfl, ⟨_, g.vw.sm _ _ e1, fun _ w => nomatch w⟩⟩
    · rw [less_ne z]
      exact g.vw.pr y ⟨hy, z⟩
  · exact ⟨gf _ _ _ _ g.vw.lf, vs, g.vw.sm _ _ e1, gN _ _ _ _ rv⟩
  · have z : y ≠ q := fun z => by rw [z, gq] at e; cases e
    rw [less_ne z]
    exact g.g y o (by rw [upd_ne z]; exact e)
theorem wf_peekN {k : Dv → α × β → Prop} {f : β → List PyData} (gN : N.Free) (hf : OwnD Γ N f) (gf : F.GFree) (hq : ¬ F.own q) (i : Nat) (hi : ss[i]? = some (some (.r q))) (h : WpF Γ F c te (ss.set i (some (.d (.list (f b))))) (fun d c1 => flat d = true ∧ k d (c1, b)) x) : WpF Γ (F.cell q N) (c, b) te ss k x := fun Pr G H σ v s Q kq kx => by
  obtain ⟨vs, hv, rv, gq, v2, s2⟩ := peek_in hf hq hi v s
  refine h _ _ H σ v2 s2 Q (fun d w c1 G1 H1 ⟨hd, hk⟩ g rd => ?_) fun z dd fs H' kp => kx z dd fs H' fun b o n e => kp b o (fun y => n (.inl y)) e
  obtain ⟨e1, g1⟩ := peek_out gN gf hq v hv gq rv g
  exact kq d w (c1, b) _ H1 hk g1 (flat_less hd e1 (fun y o z e => by rw [less_ne z]; exact e) rd)
theorem ft_peekN {k : Bool → α × β → Prop} {f : β → List PyData} (gN : N.Free) (hf : OwnD Γ N f) (gf : F.GFree) (hq : ¬ F.own q) (i : Nat) (hi : ss[i]? = some (some (.r q))) (h : WpFT Γ F c tt (ss.set i (some (.d (.list (f b))))) (fun d c1 => k d (c1, b)) x) : WpFT Γ (F.cell q N) (c, b) tt ss k x := fun Pr G H σ v s Q kq kx => by
  obtain ⟨vs, hv, rv, gq, v2, s2⟩ := peek_in hf hq hi v s
  refine h _ _ H σ v2 s2 Q (fun d c1 G1 H1 hk g => ?_) fun z dd fs H' kp => kx z dd fs H' fun b o n e => kp b o (fun y => n (.inl y)) e
  obtain ⟨e1, g1⟩ := peek_out gN gf hq v hv gq rv g
  exact kq d (c1, b) _ H1 hk g1
theorem wf_peek {k : Dv → α × List Str → Prop} (gf : F.GFree) (hq : ¬ F.own q) (i : Nat) (hi : ss[i]? = some (some (.r q))) (h : WpF Γ F c te (ss.set i (some (.d (.list (zs.map PyData.str))))) (fun d c1 => flat d = true ∧ k d (c1, zs)) x) : WpF Γ (F.cell q cnS) (c, zs) te ss k x := wf_peekN free_S ownS gf hq i hi h
theorem ft_peek {k : Bool → α × List Str → Prop} (gf : F.GFree) (hq : ¬ F.own q) (i : Nat) (hi : ss[i]? = some (some (.r q))) (h : WpFT Γ F c tt (ss.set i (some (.d (.list (zs.map PyData.str))))) (fun d c1 => k d (c1, zs)) x) : WpFT Γ (F.cell q cnS) (c, zs) tt ss k x := ft_peekN free_S ownS gf hq i hi h
/-- a test that looks at an own list of data -/
theorem ft_peekD {k : Bool → α × β → Prop} {f : β → List PyData} (hf : OwnD Γ N f) (hq : ¬ F.own q) (i : Nat) (hi : ss[i]? = some (some (.r q))) (h : WpT (Γ.at Mode.no) tt (ss.set i (some (.d (.list (f b))))) (fun d => k d (c, b)) x) : WpFT Γ (F.cell q N) (c, b) tt ss k x := fun Pr G H σ v s Q kq kx => by
  obtain ⟨vs, hv, rv, gq, v2, s2⟩ := peek_in hf hq hi v s
  refine h _ _ H σ (v2.sub .no) s2 Q (fun d G1 H1 hk g => ?_) fun z dd fs H' kp => kx z dd fs H' fun b o n e => kp b o (fun y => y) e
  have sH := g.h.to_same
  exact kq d (c, b) G H1 hk ⟨⟨fun y o e => sH y o (v.sm y o e), fun y hy => by
    obtain ⟨h1, o, h2, h3⟩ := v.pr y hy
    exact ⟨h1, o, sH y o h2, h3⟩, v.ow, ((F.cell q N).at (c, b)).st v.lf (Same.refl _) fun y o _ e => sH y o e⟩, Same.refl _, fun y o _ e => sH y o e⟩
theorem wf_cb {r : List V → Hp → VK → Prop} (h : WpFA Γ F c tr ss (fun as c1 => RC (Γ.at Mode.no) r as fun d => k d c1) x) : WpF Γ F c (tCB r tr) ss k x := fun Pr G H σ v s Q hq hx =>
  h Pr G H σ v s _ (fun as vs c1 G1 H1 h1 g1 rs => h1 Pr G1 H1 vs (g1.vw.sub .no) rs Q fun d z G2 H2 hk g2 rd => hq d z c1 G2 H2 hk (g1.trans (.of (g2.sub .no g1.vw))) rd) hx
/-- tuple(an own list) -/
theorem wf_tupOwn {k : Dv → α × β → Prop} {f : β → List PyData} (hf : OwnD Γ N f) (hi : ss[i]? = some (some (.r q))) (hk : k (.d (.tuple (f b))) (c, b)) : WpF Γ (F.cell q N) (c, b) (tCB (rTupL Γ.K) (tCons (tVar i) tNil)) ss k x := fun Pr G H σ v s Q kq kx => by
  obtain ⟨z, ez, rz⟩ := s.get hi
  have rz' : z = .ref q := rz
  subst rz'
  obtain ⟨hJ, vs, hv, rv⟩ := v.lf
  refine ⟨_, ez, q, vs, rfl, .inl ⟨SqL.of hv, fun l hl => ?_⟩⟩
  have n := v.new (o := .tup vs) hl
  exact kq _ _ (c, b) _ _ hk (.of n) (.tup (SqT.of upd_same) (dqAll_mono n.g (hf G b vs rv)))
/-- data + an own list -/
theorem wf_catOwn {k : Dv → α × β → Prop} {f : β → List PyData} (hf : OwnD Γ N f) (hi : ss[i]? = some (some (.r q))) (h : Wp (Γ.at Mode.no) ta ss (fun d => ∃ xs, d = .d (.list xs) ∧ xs.length + (f b).length ≤ 1000 ∧ k (.d (.list (xs ++ f b))) (c, b)) x) :
    WpF Γ (F.cell q N) (c, b) (tOp rCat ta (tVar i)) ss k x := fun Pr G H σ v s Q kq kx => by
  refine h Pr G H σ (v.sub .no) s _ (fun d w G1 H1 ⟨xs, ed, hl, hk⟩ g rd => ?_) fun z dd fs H' kp => kx z dd fs H' fun b o n e => kp b o (fun y => y) e
  subst ed
  have g1 : GoF (F.cell q N) Pr G H (c, b) G1 H1 := .of (g.sub .no v)
  have s1 := s.mono g.g
  obtain ⟨z, ez, rz⟩ := s1.get hi
  have rz' : z = .ref q := rz
  subst rz'
  obtain ⟨hJ, vs, hv, rv⟩ := g1.vw.lf
  have rd' : Dq Γ.K G1 w (.list xs) := rd
  cases rd' with
  | @lst a us _ hs ha =>
    have hb := hf G1 b vs rv
    refine ⟨_, ez, a, q, us, vs, rfl, rfl, g.vw.sm _ _ hs, hv, by rw [dqAll_length ha, dqAll_length hb, sizeLine_eq]; omega, fun p hp => ?_⟩
    have n := g1.vw.new (o := .lst (us ++ vs)) hp
    exact kq _ _ (c, b) _ _ hk (g1.trans (.of n)) (.lst upd_same (dqAll_mono n.g (dqAll_app ha hb)))
end
/-! ### Words -/
structure WSt where
  ws : List Str
  n : Nat
def WSt.rest (c : WSt) : List Str := c.ws.drop c.n
def WSt.next (c : WSt) : WSt := ⟨c.ws, c.n + 1⟩
theorem WSt.rest_next {c : WSt} {z : Str} {r : List Str} (h : c.rest = z :: r) : c.next.rest = r := by
  show c.ws.drop (c.n + 1) = r
  have h' : c.ws.drop c.n = z :: r := h
  rw [← List.tail_drop, h']
  rfl
def WSt.Ok (c : WSt) : Prop := (∀ z ∈ c.ws, Sm z ∧ z ≠ "") ∧ c.ws.length ≤ 500 ∧ c.n ≤ c.ws.length
theorem WSt.Ok.next {c : WSt} (h : c.Ok) {z : Str} {r : List Str} (e : c.rest = z :: r) : c.next.Ok := by
  refine ⟨h.1, h.2.1, ?_⟩
  show c.n + 1 ≤ c.ws.length
  have : (c.ws.drop c.n).length = (z :: r).length := congrArg List.length e
  rw [List.length_drop, List.length_cons] at this
  omega
theorem WSt.Ok.mem {c : WSt} (h : c.Ok) {z : Str} (e : z ∈ c.rest) : Sm z ∧ z ≠ "" := h.1 z (List.mem_of_mem_drop e)
def famW (K : PySem.W.Frag) (C p : Addr) : Fam WSt := ⟨fun b => b = p, fun c G H => c.Ok ∧ ∃ dx v, H p = some (.ins C dx [("words", v), ("at", .int (c.n : Nat))]) ∧ Dq K G v (.list (c.ws.map PyData.str)),
  fun ⟨h0, dx, v, e, r⟩ s k => ⟨h0, dx, v, k _ _ rfl e, dq_mono s r⟩⟩
section
variable {Γ : Ctx0} {C p : Addr} {c : WSt} {ss : Sd} {k : Dv → WSt → Prop} {x : Prop} {i : Nat} {e : EndF WSt}
theorem wf_ok {te : TE} (h : c.Ok → WpF Γ (famW Γ.K C p) c te ss k x) : WpF Γ (famW Γ.K C p) c te ss k x := fun Pr G H σ v s Q kq kx => h v.lf.1 Pr G H σ v s Q kq kx
theorem fs_ok {t : TS} (h : c.Ok → WpFS Γ (famW Γ.K C p) c t ss e) : WpFS Γ (famW Γ.K C p) c t ss e := fun Pr G H σ v s D kn kr kx => h v.lf.1 Pr G H σ v s D kn kr kx
theorem wf_fldW (hC : Cls Γ.K C) (hn : NoAttr Γ.K C "words") (hi : ss[i]? = some (some (.r p))) (hk : k (.d (.list (c.ws.map PyData.str))) c) : WpF Γ (famW Γ.K C p) c (tFld Γ.K (tVar i) "words") ss k x := fun Pr G H σ v s Q kq kx => by
  obtain ⟨z, ez, rz⟩ := s.get hi
  have rz' : z = .ref p := rz
  subst rz'
  obtain ⟨h0, dx, w, e, r⟩ := v.lf
  exact ⟨_, ez, p, C, dx, _, w, rfl, e, hC, hn, rfl, kq _ _ c G H hk (GoF.refl v) r⟩
theorem wf_fldA (hC : Cls Γ.K C) (hn : NoAttr Γ.K C "at") (hi : ss[i]? = some (some (.r p))) (hk : k (.d (.int (c.n : Nat))) c) : WpF Γ (famW Γ.K C p) c (tFld Γ.K (tVar i) "at") ss k x := fun Pr G H σ v s Q kq kx => by
  obtain ⟨z, ez, rz⟩ := s.get hi
  have rz' : z = .ref p := rz
  subst rz'
  obtain ⟨h0, dx, w, e, r⟩ := v.lf
  exact ⟨_, ez, p, C, dx, _, .int (c.n : Nat), rfl, e, hC, hn, by with_unfolding_all rfl, kq _ _ c G H hk (GoF.refl v) (.int _)⟩
theorem fs_augA (hC : Cls Γ.K C) (hn : NoAttr Γ.K C "at") (hi : ss[i]? = some (some (.r p))) (ho : c.next.Ok) (hk : e.nx ss c.next) : WpFS Γ (famW Γ.K C p) c (sFldAug Γ.K (tVar i) (tC (.int 1)) rAdd "at") ss e := fun Pr G H σ v s D kn kr kx => by
  obtain ⟨z, ez, rz⟩ := s.get hi
  have rz' : z = .ref p := rz
  subst rz'
  obtain ⟨h0, dx, w, ee, r⟩ := v.lf
  refine ⟨_, ez, p, C, dx, _, .int (c.n : Nat), rfl, ee, hC, hn, by with_unfolding_all rfl, (c.n : Nat), 1, rfl, rfl, dx, _, ee, by simp, ?_⟩
  have gp : G p = none := (v.pr p (v.ow p rfl)).1
  have ep : putF "at" (V.int ((c.n : Nat) + 1 : Int)) [(("words" : Str), w), ("at", .int (c.n : Nat))] = [(("words" : Str), w), (("at" : Str), V.int ((c.n + 1 : Nat) : Int))] := by
    with_unfolding_all rfl
  rw [ep]
  refine kn ss σ c.next G _ hk ⟨⟨fun y o q => ?_, fun y hy => ?_, v.ow, ho, dx, w, upd_same, r⟩, Same.refl _, fun y o n q => ?_⟩ s
  · rw [upd_ne (ne_of_none q gp)]
    exact v.sm y o q
  · refine ⟨(v.pr y hy).1, ?_⟩
    by_cases z : y = p
    · subst z
      rw [upd_same]
      exact ⟨_, rfl, fun _ w => nomatch w⟩
    · rw [upd_ne z]
      exact (v.pr y hy).2
  · rw [upd_ne n]
    exact q
/-- a method without arguments -/
theorem wf_meth {m : Str} {E : XK} {A : Addr → WSt → Prop} {P : Addr → WSt → PyData → WSt → Prop} {X : Addr → WSt → Prop} (hE : E = Γ.E ∨ ∀ a c, ¬ X a c) (hm : List.lookup m [(("words" : Str), V.non), ("at", V.non)] = none) (hi : ss[i]? = some (some (.r p)))
    (ha : A p c) (hk : ∀ d c', P p c d c' → k (.d d) c') (hx : X p c → x) : WpF Γ (famW Γ.K C p) c (tMeth C m (spF Γ.K Γ.C (famW Γ.K C) (fun p => [.r p]) A P X) [] E (tVar i) tNil) ss k x := fun Pr G H σ v s Q kq kx => by
  obtain ⟨z, ez, rz⟩ := s.get hi
  have rz' : z = .ref p := rz
  subst rz'
  have v0 := v
  obtain ⟨h0, dx, w, ee, r⟩ := v.lf
  have hm' : List.lookup m [(("words" : Str), w), ("at", .int (c.n : Nat))] = none := by
    simp only [List.lookup] at hm ⊢
    split at hm
    · cases hm
    · split at hm
      · cases hm
      · simp_all
  refine ⟨_, ez, p, dx, _, rfl, ee, hm', p, c, G, Pr, ha, .cons rfl .nil, v0, fun d v c' G' H' hp g rd => kq (.d d) v c' G' H' (hk d c' hp) g rd, fun hX => ?_⟩
  rcases hE with e | e
  · rw [e]
    exact kx (hx hX)
  · exact absurd hX (e p c)
end
/-- Words(ws) is made -/
def spInit (C : Addr) : Sp := fun vs H Q _ => ∃ p dx v, vs = [.ref p, v] ∧ H p = some (.ins C dx []) ∧ Q .non (upd H p (.ins C dx [("words", v), ("at", .int 0)]))
theorem ws_make {Γ : Ctx} {C : Addr} {E : XK} {tr : TA} {i : Nat} {u : TS} {ss : Sd} {e : EndD}
    (h : WpA Γ tr ss (fun as => ∃ ws : List Str, as = [.d (.list (ws.map PyData.str))] ∧ (⟨ws, 0⟩ : WSt).Ok ∧ ∀ p, WpFS ⟨Γ.K, Γ.E, Γ.C⟩ (famW Γ.K C p) ⟨ws, 0⟩ u (ss.set i (some (.r p))) ⟨fun _ _ => False, fun d _ => e.rt d, e.x⟩) e.x) :
    WpS Γ (tSeq (tAsg (tMake C (spInit C) [] E tr) (gName i)) u) ss e := fun Pr G H σ v s D kn kr kx =>
  h Pr G H σ v s _ (fun as vs G1 H1 ⟨ws, ea, h0, hu⟩ g rs x dx hx hd ne => by
    subst ea
    cases rs with
    | @cons w _ _ _ h1 t =>
      cases t
      have h1' : Dq Γ.K G1 w (.list (ws.map PyData.str)) := h1
      refine ⟨x, dx, w, rfl, upd_same, rfl, ?_⟩
      rw [upd_upd]
      have gx : G1 x = none := g.vw.sm.free hx
      have gd : G1 dx = none := g.vw.sm.free hd
      have kp : ∀ y o, H1 y = some o → upd (upd H1 dx (.own x)) x (.ins C dx [("words", w), ("at", .int 0)]) y = some o := fun y o q => by
        rw [upd_ne (ne_of_none q hx), upd_ne (ne_of_none q hd)]
        exact q
      have v2 : Vw ((famW Γ.K C x).at ⟨ws, 0⟩) (fun y => Pr y ∨ y = x) G1 (upd (upd H1 dx (.own x)) x (.ins C dx [("words", w), ("at", .int 0)])) := by
        refine ⟨fun y o q => kp y o (g.vw.sm y o q), fun y hy => ?_, fun y hy => .inr hy, h0, dx, w, upd_same, h1'⟩
        rcases hy with hy | hy
        · obtain ⟨a1, o, a2, a3⟩ := g.vw.pr y hy
          exact ⟨a1, o, kp y o a2, a3⟩
        · subst hy
          rw [upd_same]
          exact ⟨gx, _, rfl, fun _ w => nomatch w⟩
      refine hu x _ G1 _ _ v2 (Sl.set (d := .r x) rfl i (s.mono g.g)) D (fun _ _ _ _ _ z => z.elim) (fun d w' c2 G2 H2 hr g2 rd => ?_) fun z dd fs H' kp2 => kx z dd fs H' fun y o n q => ?_
      · have back : ∀ y o, ¬ Γ.M.own y → H y = some o → H2 y = some o := fun y o n q => by
          have q1 := g.h y o n q
          exact g2.h y o (fun z => by
            have z' : y = x := z
            rw [z', hx] at q1
            cases q1) (kp y o q1)
        refine kr d w' G2 H2 hr ⟨⟨g2.vw.sm, fun y hy => g2.vw.pr y (.inl hy), v.ow, ?_⟩, g.g.trans g2.g, back⟩ rd
        refine Γ.M.st g.vw.lf g2.g fun y o hy q => ?_
        exact g2.h y o (fun z => by
          have z' : y = x := z
          rw [z', hx] at q
          cases q) (kp y o q)
      · have q1 := g.h y o n q
        exact kp2 y o (fun z => by
            have z' : y = x := z
            rw [z', hx] at q1
            cases q1) (kp y o q1)) kx
end K84
namespace K84
open PySem PySem.Spec PyProof.Rows L2
section
variable {X : Cx} {j k i : Nat} {f C : Addr} {sp : Sp} {E : XK} {x m : Str} {p pos apos cpos : Pos} {o e : Expr} {es : List Expr} {ta to : TE} {t : TA}
theorem pe_methI {pl : Sem Bool} (he : PE X o ta) (c : Cls X.K C) (hm : Meth X.K C m f) (F : FnI X.prog X.w X.K X.mg X.base k f sp) (hr : Room j X.A) (hx : Passes (L2.CX X.prog X.w) X E) (hk : k ≤ j := by decide)
    (ht : eval (.Call (.Attribute o m apos) [] [] pos) X.env = (do
      let ov ← eval o X.env
      standAt apos.atName
      let (f, first) ← holding [ov] (getMethod ov m pl)
      callWith pos f first (backTo pos (starEach [] X.env)) (backToKw pos (keywordEach [] X.env))) := by rfl) :
    PE X (.Call (.Attribute o m apos) [] [] pos) (tMeth C m sp [] E ta tNil) := by
  obtain ⟨fd, ps, F, hb, kp⟩ := F
  exact pe_meth0 he c hm F (hr.mono hk) hb .nil hx ht
theorem pe_makeI (M : Mk X.K C f) (F : FnI X.prog X.w X.K X.mg X.base k f sp) (hr : Room j X.A) (hm : X.mg x = some (.ref C)) (hx : Passes (L2.CX X.prog X.w) X E) (ha : PA X (e :: es) t) (hk : k + 1 ≤ j := by decide) (hg : Gl X x := by rfl)
    (hdb : (x == ("__debug__" : Str)) = false := by decide) (he : starEach (e :: es) X.env = (false, eval e X.env) :: starEach es X.env := by rfl) (hpl : (backTo pos (starEach es X.env)).any (·.1) = false := by rfl) :
    PE X (.Call (.Name x p) (e :: es) [] pos) (tMake C sp [] E t) := by
  obtain ⟨fd, ps, F, hb, kp⟩ := F
  exact pe_make M F (hr.mono hk) hg hm hb .nil hx ha hdb he hpl
theorem mt_appendR : MtR X "list.append" rAppend := mt_append
theorem mt_extendR : MtR X "list.extend" rExtend := mt_extend
theorem mt_popR : MtR X "list.pop" rPopAt := mt_popAt
theorem pe_bmK {T id : String} {name : Str} {r : V → List V → Hp → VK → Prop} (K : PySem.W.Frag) (pa : PlainAttrs T) (slot : Slot T name id) (hty : typeOf (.builtin id) = pure (.type "method_descriptor")) (hm : MtR X id r) (ho : PE X o to) (ha : PA X (e :: es) t)
    (hbase : attributeBase o name X.env (eval o X.env) = eval o X.env := by rfl)
    (hfew : ((backTo cpos (starEach (e :: es) X.env)).all (fun x => !x.1) && (backToKw cpos (keywordEach [] X.env)).all (fun x => x.1.isSome)
      && decide ((e :: es).length + ([] : List Keyword).length + (if ([] : List Keyword).isEmpty then 0 else 1) < 30)) = true := by rfl)
    (hline : (apos.endLine == cpos.line) = true := by rfl) (hs : starEach (e :: es) X.env = (false, eval e X.env) :: starEach es X.env := by rfl) (hplain : (backTo cpos (starEach es X.env)).any (·.1) = false := by rfl)
    (eK : X.K = K := by rfl) : PE X (.Call (.Attribute o name apos) (e :: es) [] cpos) (tBM K T r to t) := eK ▸ pe_bm pa slot hty hm ho ha hbase hfew hline hs hplain
end
section
variable {α : Type} {Γ : Ctx0} {F : Fam α} {c : α} {ss : Sd} {k : Dv → α → Prop} {x : Prop} {te : TE} {i : Nat} {d : Dv}
theorem ft_B {k : Bool → α → Prop} (h : WpF Γ F c te ss (fun d c1 => ∃ b, d = .d (.bool b) ∧ k b c1) x) : WpFT Γ F c (tB te) ss k x := fun Pr G H σ v s Q hq hx =>
  h Pr G H σ v s _ (fun d w c1 G1 H1 ⟨b, ed, hk⟩ g r => by
    subst ed
    cases r
    exact ⟨b, rfl, hq b c1 G1 H1 hk g⟩) hx
theorem wf_vr (h : ss[i]? = some (some d)) (q : k d c) : WpF Γ F c (tVar i) ss k x := wf_lift0 (wp_var h q)
theorem wf_in {n : Int} (q : k (.d (.int n)) c) : WpF Γ F c (tC (.int n)) ss k x := wf_lift0 (wp_int q)
theorem wf_st {z : Str} (q : k (.d (.str z)) c) : WpF Γ F c (tC (.str z)) ss k x := wf_lift0 (wp_str q)
theorem wf_b {b : Bool} (q : k (.d (.bool b)) c) : WpF Γ F c (tC (.bl b)) ss k x := wf_lift0 (wp_bl q)
theorem wf_nn (q : k (.d .none) c) : WpF Γ F c (tC .non) ss k x := wf_lift0 (wp_non q)
end
theorem wp_neg {Γ : Ctx} {ss : Sd} {k : Dv → Prop} {x : Prop} {n : Int} (q : k (.d (.int (-n)))) : Wp Γ (tUn (rU fun i => V.int (-i)) (tC (.int n))) ss k x := fun Pr G H σ v s Q hq _ => ⟨n, rfl, hq _ _ G H q (Go.refl v) (.int _)⟩
section
variable {α : Type} {Γ : Ctx0} {F : Fam α} {c c1 : α} {ss : Sd} {k : List Dv → α → Prop} {x : Prop} {tr : TA} {t u : TS} {e : EndF α}
theorem fa_lift0 (h : WpA (Γ.at Mode.no) tr ss (fun as => k as c) x) : WpFA Γ F c tr ss k x := fun Pr G H σ v s Q hq hx =>
  h Pr G H σ (v.sub .no) s Q (fun as vs G' H' hk g r => hq as vs c G' H' hk (.of (g.sub .no v)) r) fun z dd fs H' kp => hx z dd fs H' fun b o n e => kp b o (fun y => y) e
/-- a statement that leads to one state -/
theorem fs_mid (c1 : α) (h1 : WpFS Γ F c t ss ⟨fun s' c' => s' = ss ∧ c' = c1, fun _ _ => False, e.x⟩) (h2 : WpFS Γ F c1 u ss e) : WpFS Γ F c (tSeq t u) ss e :=
  fs_seq fun Pr G H σ v s D kn kr kx => h1 Pr G H σ v s D (fun ss' σ' c' G' H' ⟨e1, e2⟩ g s' => kn ss' σ' c' G' H' (by subst e1 e2; exact h2) g s') (fun _ _ _ _ _ z => z.elim) kx
end
end K84

/-! part K84B -/
set_option maxHeartbeats 2000000
/-! K84B: try around a call of a def that stands in a slot. -/
namespace K84
open PySem PySem.Spec PyProof.Rows L2
section
variable {Γ : Ctx} {ss : Sd} {e : EndD}
theorem ws_tryL {α : Type} {M : α → Mode} {arg : α → List Dv} {A : α → Prop} {P : α → PyData → Prop} {X : α → Prop} {ta : TA} {cH : Value} {ix ie iy n j : Nat} {f : Addr} {Wout : Ends → WX}
    (hj : ss[j]? = some (some (.r f))) (hne : ie ≠ iy) (hn : ie < n) (hn2 : iy < n) (hM : ∀ a, M a = Mode.no) (hm : PySem.W.exmOne Γ.K (.ref Γ.C) cH = some true)
    (h : WpA Γ ta ss (fun ds => ∃ a, ds = arg a ∧ A a ∧ (∀ d, P a d → e.nx (ss.set ix (some (.d d)))) ∧ (X a → e.nx (onlyD n iy (.e Γ.C)))) e.x) :
    WpS Γ (fun D σ H => (fun W : WX => tAsg (tCallL j f (spD Γ.K Γ.C M arg A P X) [] (fun cls d H' => ∀ σ, W cls d σ H') ta) (gName ix)) (wAsK Γ.K cH ie n (fun _ _ _ => tAsg (tVar ie) (gName iy)) (Wout D) D) D σ H) ss e := fun Pr G H σ v s D kn kr kx => by
  obtain ⟨z, ez, rz⟩ := s.get hj
  have rz' : z = .ref f := rz
  subst rz'
  have key := ws_try (te := fun ta E σ H Q => ta σ H fun vs H1 => spD Γ.K Γ.C M arg A P X vs H1 Q E) (Wout := Wout) hne hn hn2 hM (fun _ _ => rfl) hm h Pr G H σ v s D kn kr kx
  refine ⟨ez, ?_⟩
  simp only [List.append_nil]
  exact key
end
end K84

/-! part K84D0 -/
set_option maxHeartbeats 1000000
/-! K84D0: the error's __init__, raise NoLetter(). -/
namespace K84
open PySem PySem.Spec PyProof.Rows L2
section
variable {P : Program} {w : World} {K : PySem.W.Frag} {mg : Str → Option Value} {base : Heap}
abbrev N_HoldError_init : List Str := ["self", "row"]
abbrev P_HoldError_init : List Str := ["self", "row"]
theorem sc_HoldError_init : FnScope N_HoldError_init P_HoldError_init (defScope s_HoldError_init) := ⟨rfl, rfl, rfl, by decide +kernel, rfl, by decide +kernel, by decide +kernel⟩
theorem never_pe {X : Cx} {e : Expr} : PE X e (fun _ _ _ => False) := ⟨fun _ _ _ _ _ _ h => h.elim⟩
theorem okF_init (W : Wd w K mg) : ∃ fd ps ds, FnOk P w K mg base (L2.CX P w) 1 (He.ma K (He.ga K "HoldError") "__init__") fd ps (spI K) ∧ Binds K fd ps ds ∧ Vals [.non] ds := by
  obtain ⟨fd, F⟩ := W.fd_HoldError_init
  obtain ⟨ds, hd, hb⟩ := FunD.binds1 (ps := P_HoldError_init) F 1 0 (List.cons_ne_nil _ _) rfl (fun T kV doc pm an cdv ct us its hu hi => match us, its, hu, hi with | [_], [_], _, _ => ⟨_, rfl, rfl⟩)
  refine ⟨fd, P_HoldError_init, ds, ?_, hb, hd⟩
  refine FunD.ok F sc_HoldError_init (fun vs H Q E ⟨a, C, e, _⟩ => by rw [e]; rfl) fun cdv A outer s H vs Q E hr h => ⟨_, ?_, init_body (N := N_HoldError_init) (tx := fun _ _ _ => False) (z := "refused") (E := E) rfl h⟩
  exact pss_cons (ps_expr (pe_veinit rfl W.f_ValueError W.vinit (pa_cons (pv 0) (pa_cons (pe_ifExp (pt_cmpR op_isNn (pv 1) pe_non (nomark _)) pe_str never_pe) pa_nil)))) (pss_cons (ps_ost (pv 0) (pv 1)) pss_nil)
end
theorem pmk_NL {X : Cx} {j : Nat} {p pos : Pos} (W : Wd X.w X.K X.mg) (hr : Room j X.A) (hj : 2 ≤ j := by decide) (hg : Gl X "NoLetter" := by rfl) : PMk X (.Call (.Name "NoLetter" p) [] [] pos) (tMkO (CN X.K) (spI X.K) [.non] tNil) := by
  obtain ⟨fd, ps, ds, F, hb, hd⟩ := okF_init (P := X.prog) (base := X.base) W
  exact pmk_oex0 W.exf.o W.exf.init W.exf.ty F (hr.mono hj) hb hd passL hg W.g_NoLetter
end K84

/-! part K84D1 -/
set_option maxHeartbeats 400000
/-! K84D1: the defs: words, numbers, names. -/
namespace K84
local macro_rules | `(tactic| fail "w") => `(tactic| (first | with_reducible refine wp_neg ?_ | with_reducible refine wp_pick ?_ | with_reducible refine wp_draw ?_ | with_reducible refine ws_seq ?_ | with_reducible refine ws_nx ?_ | with_reducible refine ws_set ?_ | with_reducible refine ws_ret ?_ | with_reducible refine ws_if ?_ | with_reducible refine ws_drop ?_ | with_reducible refine wt_or ?_ | with_reducible refine wt_and ?_ | with_reducible refine wt_not ?_ | with_reducible refine wt_B ?_ | with_reducible refine wt_test ?_ | with_reducible refine wp_chain ?_ | with_reducible refine wp_andV ?_ | with_reducible refine wp_orV ?_ | with_reducible refine wp_notV ?_ | with_reducible refine wp_if ?_ | with_reducible refine wp_int ?_ | with_reducible refine wp_var (by with_unfolding_all rfl) ?_ | with_reducible refine wp_str ?_ | with_reducible refine wp_bl ?_ | with_reducible refine wp_non ?_ | with_reducible refine wp_ref ?_ | with_reducible refine wp_op ?_ | with_reducible refine wp_tup' ?_ | with_reducible refine wp_lst' ?_ | with_reducible refine wa_cons ?_ | with_reducible refine wa_nil ?_ | with_reducible refine wp_sl ?_ | with_reducible refine wo_none ?_ | with_reducible refine wo_some ?_ | with_reducible refine wp_isi' (by simp) ?_ | with_reducible refine wp_allIn (by with_unfolding_all rfl) (by assumption) (by with_unfolding_all exact of_decide_eq_true rfl) (by with_unfolding_all rfl) ?_ | with_reducible refine wp_cb ?_ | with_reducible refine wp_m1 ?_ | with_reducible refine rs_T1 ?_ | with_reducible refine rs_T' (by with_unfolding_all rfl) (by with_unfolding_all rfl) ?_ | with_reducible refine wi_list ?_ | with_reducible refine wi_tup ?_ | with_reducible refine wi_str ?_ | with_reducible refine wi_rng1 ?_ | with_reducible refine wi_rng2 ?_ | with_reducible refine wi_zipT ?_ | with_reducible refine wi_zipM ?_ | with_reducible refine wi_enum ?_ | with_reducible refine rd_ib ?_ | with_reducible refine rd_ii ?_ | with_reducible refine rd_inSg ?_ | with_reducible refine rd_mod (by first | assumption | decide) ?_ | with_reducible refine rd_mul (cmul_r (by decide +kernel)) ?_ | with_reducible refine rd_mul (cmul_l (by decide +kernel)) ?_ | with_reducible refine rc_max ?_ | with_reducible refine rc_min ?_ | with_reducible refine rd_eqI ?_ | with_reducible refine rd_neI ?_ | with_reducible refine rd_eqS (by first | assumption | decide +kernel) (by first | assumption | decide +kernel) ?_ | with_reducible refine rd_neS (by first | assumption | decide +kernel) (by first | assumption | decide +kernel) ?_ | with_reducible refine rd_iC (cpow_ok (by with_unfolding_all rfl)) ?_ | with_reducible refine rd_isN' (b := true) (by with_unfolding_all rfl) ?_ | with_reducible refine rd_isN' (b := false) (by with_unfolding_all rfl) ?_ | with_reducible refine rd_notN' (b := true) (by with_unfolding_all rfl) ?_ | with_reducible refine rd_notN' (b := false) (by with_unfolding_all rfl) ?_ | with_reducible refine rc_len (by first | assumption | with_unfolding_all rfl) ?_ | with_reducible refine rd_ixT0 ?_ | with_reducible refine rd_ixL0 ?_ | with_reducible refine rd_ixT (by first | assumption | with_unfolding_all rfl) ?_ | with_reducible refine rd_ixL (by first | assumption | with_unfolding_all rfl) ?_ | with_reducible refine wp_callF ?_ | with_reducible refine rc_tupL ?_ | with_reducible refine rc_strS ?_ | with_reducible refine rc_all ?_ | with_reducible refine L2.iteT ?_ | with_reducible refine ite_dT (by with_unfolding_all exact of_decide_eq_true rfl) ?_ | with_reducible refine ite_dF (by with_unfolding_all exact of_decide_eq_false rfl) ?_ | with_reducible refine ite_ndT (by with_unfolding_all exact of_decide_eq_true rfl) ?_ | with_reducible refine ite_ndF (by with_unfolding_all exact of_decide_eq_false rfl) ?_ | with_reducible refine L2.iteF ?_ | with_reducible refine ite_nt ?_ | with_reducible refine ite_nf ?_ | refine ⟨_, true, rfl, rfl, ?_⟩ | refine ⟨_, false, rfl, rfl, ?_⟩ | with_reducible refine ⟨_, rfl, ?_⟩ | with_reducible refine ⟨_, _, rfl, ?_⟩ | with_reducible refine And.intro (by first | assumption | exact trivial | with_unfolding_all exact of_decide_eq_true rfl) ?_ | with_reducible refine And.intro Mode.Sub.no ?_ | with_reducible refine ⟨_, (by with_unfolding_all rfl), (by with_unfolding_all exact of_decide_eq_true rfl), ?_⟩))
open PySem PySem.Spec PyProof.Rows L2
section
variable {P : Program} {w : World} {K : PySem.W.Frag} {mg : Str → Option Value} {base : Heap}
abbrev N_is_number : List Str := ["thing", "least"]
abbrev P_is_number : List Str := ["thing", "least"]
theorem sc_is_number : FnScope N_is_number P_is_number (defScope s_is_number) := ⟨rfl, rfl, rfl, by decide +kernel, rfl, by decide +kernel, by decide +kernel⟩
abbrev sp_is_number (K : PySem.W.Frag) : Sp := spD K (CN K) (fun _ => Mode.no) (fun p : Int × Int => [.d (.int p.1), .d (.int p.2)]) (fun _ => True) (fun p y => y = .bool (decide (p.2 ≤ p.1))) (fun _ => False)
theorem ok_is_number (W : Wd w K mg) : FnI P w K mg base 1 (He.ga K "is_number") (sp_is_number K) := by
  obtain ⟨fd, F⟩ := W.fd_is_number
  refine FnI.of F sc_is_number (fun _ _ _ _ _ _ us hl => match us, hl with | [_, _], _ => rfl) (fun _ _ => rfl) fun cdv A outer s H E hr p _ => ⟨_, (pss_one (ps_ret (pe_and (pe_callB (callK rIsi K call_isi) rfl W.f_isinstance PyProof.Rows.Boot.«isinstance» (pa_cons (pv 0) (pa_cons (pe_bltn (v := .ty "int") rfl W.f_int PyProof.Rows.Boot.«int» rfl) pa_nil))) (pe_and (pe_not (pe_callB (callK rIsi K call_isi) rfl W.f_isinstance PyProof.Rows.Boot.«isinstance» (pa_cons (pv 0) (pa_cons (pe_bltn (v := .ty "bool") rfl W.f_bool PyProof.Rows.Boot.«bool» rfl) pa_nil)))) (pe_one (pe_cmpR op_ge (pv 0) (pv 1) (nomark _))))))), ?_⟩
  try dsimp only [cxOf, Cx.blk, Cx.blkE]
  repeat fail "w"
  rfl
abbrev N_is_whole : List Str := ["thing"]
abbrev P_is_whole : List Str := ["thing"]
theorem sc_is_whole : FnScope N_is_whole P_is_whole (defScope s_is_whole) := ⟨rfl, rfl, rfl, by decide +kernel, rfl, by decide +kernel, by decide +kernel⟩
abbrev sp_is_whole (K : PySem.W.Frag) : Sp := spD K (CN K) (fun _ => Mode.no) (fun i : Int => [.d (.int i)]) (fun _ => True) (fun _ y => y = .bool true) (fun _ => False)
theorem ok_is_whole (W : Wd w K mg) : FnI P w K mg base 1 (He.ga K "is_whole") (sp_is_whole K) := by
  obtain ⟨fd, F⟩ := W.fd_is_whole
  refine FnI.of F sc_is_whole (fun _ _ _ _ _ _ us hl => match us, hl with | [_], _ => rfl) (fun _ _ => rfl) fun cdv A outer s H E hr p _ => ⟨_, (pss_one (ps_ret (pe_and (pe_callB (callK rIsi K call_isi) rfl W.f_isinstance PyProof.Rows.Boot.«isinstance» (pa_cons (pv 0) (pa_cons (pe_bltn (v := .ty "int") rfl W.f_int PyProof.Rows.Boot.«int» rfl) pa_nil))) (pe_one (pe_not (pe_callB (callK rIsi K call_isi) rfl W.f_isinstance PyProof.Rows.Boot.«isinstance» (pa_cons (pv 0) (pa_cons (pe_bltn (v := .ty "bool") rfl W.f_bool PyProof.Rows.Boot.«bool» rfl) pa_nil)))))))), ?_⟩
  try dsimp only [cxOf, Cx.blk, Cx.blkE]
  repeat fail "w"
  rfl
abbrev N_is_word : List Str := ["thing", "sign"]
abbrev P_is_word : List Str := ["thing"]
theorem sc_is_word : FnScope N_is_word P_is_word (defScope s_is_word) := ⟨rfl, rfl, rfl, by decide +kernel, rfl, by decide +kernel, by decide +kernel⟩
abbrev sp_is_word (K : PySem.W.Frag) : Sp := spD K (CN K) (fun _ => Mode.no) (fun z : Str => [.d (.str z)]) Sm (fun z y => y = .bool (wordB z)) (fun _ => False)
theorem ok_is_word (W : Wd w K mg) : FnI P w K mg base 1 (He.ga K "is_word") (sp_is_word K) := by
  obtain ⟨fd, F⟩ := W.fd_is_word
  refine FnI.of F sc_is_word (fun _ _ _ _ _ _ us hl => match us, hl with | [_], _ => rfl) (fun _ _ => rfl) fun cdv A outer s H E hr z hz => ⟨_, (pss_cons (ps_if (PW.pt (pw_or (pt_not (pt_val (pe_callB (callK rIsi K call_isi) rfl W.f_isinstance PyProof.Rows.Boot.«isinstance» (pa_cons (pv 0) (pa_cons (pe_bltn (v := .ty "str") rfl W.f_str PyProof.Rows.Boot.«str» rfl) pa_nil))))) (pw_or1 (pt_not (pt_chain op_le op_le pe_int (pe_callB (callK rLenD K call_lenD2) rfl W.f_len PyProof.Rows.Boot.«len» (pa_cons (pv 0) pa_nil)) (pe_gi W.i_LONGEST)))))) (pss_one (ps_ret pe_bl)) pss_nil)
      (pss_one (ps_ret (pe_callB (callK rAll K (cr_all rfl)) rfl W.f_all PyProof.Rows.Boot.«all» (pa_cons (pe_lc (own := [("sign", 1)]) (g := gName 1) (tt := tYes) rfl sc_is_word.nd (pi_str (pv 0)) (blkOk_by (own := [("sign", 1)]) (N := N_is_word) (sc := defScope s_is_word) (by decide +kernel)) (fun _ _ _ _ _ => (pg_name (i := 1) sc_is_word.nd rfl (Or.inl rfl))) (fun _ _ _ _ _ => pts_nil) (fun _ _ _ _ _ => (pe_cmpR op_inSg (pv 1) (pe_gi W.s_LETTERS) (by rfl)))) pa_nil))))), ?_⟩
  have hl := hz.lenD
  have hz' := hz.len
  try dsimp only [cxOf, Cx.blk, Cx.blkE]
  repeat fail "w"
  refine b_if2 (fun h1 => ?_) (fun h1 => ?_)
  · repeat fail "w"
    refine b_ifn (fun h2 => ?_) (fun h2 => ?_)
    · repeat fail "w"
      refine wp_lcG signD (fun c => .bool (lowB c)) (fun a b e => by simpa using e) ?_
      repeat fail "w"
      refine ⟨z.cps.toList, by rw [List.map_map]; rfl, ?_, fun c _ => ⟨_, tgt_name (by decide), ?_⟩, ?_⟩
      · have : z.cps.toList.length = z.length := Array.length_toList
        omega
      · repeat fail "w"
        rfl
      · repeat fail "w"
        have e : z.cps.toList.map (fun c => PyData.bool (lowB c)) = (z.cps.toList.map lowB).map PyData.bool := by rw [List.map_map]; rfl
        rw [e]
        repeat fail "w"
        unfold wordB
        have h1' : 1 ≤ z.length := by omega
        have h2' : z.length ≤ 12 := by omega
        simp [h1', h2', List.all_map, Function.comp_def]
    · repeat fail "w"
      have h2' : ¬ z.length ≤ 12 := by omega
      simp [wordB, h2']
  · repeat fail "w"
    have h1' : ¬ 1 ≤ z.length := by omega
    simp [wordB, h1']
abbrev N_is_name_claims : List Str := ["thing"]
abbrev P_is_name_claims : List Str := ["thing"]
theorem sc_is_name_claims : FnScope N_is_name_claims P_is_name_claims (defScope s_is_name_claims) := ⟨rfl, rfl, rfl, by decide +kernel, rfl, by decide +kernel, by decide +kernel⟩
abbrev sp_is_name (K : PySem.W.Frag) : Sp := spD K (CN K) (fun _ => Mode.no) (fun p : Nm => [.d (nameD p)]) NmOk (fun p y => y = .bool (nameB p)) (fun _ => False)
theorem ok_is_name_claims (W : Wd w K mg) : FnI P w K mg base 2 (He.ga K "is_name_claims") (sp_is_name K) := by
  obtain ⟨fd, F⟩ := W.fd_is_name_claims
  refine FnI.of F sc_is_name_claims (fun _ _ _ _ _ _ us hl => match us, hl with | [_], _ => rfl) (fun _ _ => rfl) fun cdv A outer s H E hr ⟨a, b, n⟩ ⟨ha, hb⟩ => ⟨_, (pss_cons (ps_if (PW.pt (pw_or (pt_not (pt_val (pe_callB (callK rIsi K call_isi) rfl W.f_isinstance PyProof.Rows.Boot.«isinstance» (pa_cons (pv 0) (pa_cons (pe_bltn (v := .ty "tuple") rfl W.f_tuple PyProof.Rows.Boot.«tuple» rfl) pa_nil))))) (pw_or (pt_cmpR (opK rNeD K (op_neD hr.units)) (pe_callB (callK rLenD K call_lenD2) rfl W.f_len PyProof.Rows.Boot.«len» (pa_cons (pv 0) pa_nil)) pe_int (nomark _)) (pw_or (pt_not (pt_val (pe_callI (ok_is_word W) hr W.g_is_word passL (pa_cons (pe_ix (ixK rIxT K ix_tup) (pv 0) pe_int (fun _ _ => rfl)) pa_nil)))) (pw_or1 (pt_not (pt_val (pe_callI (ok_is_word W) hr W.g_is_word passL (pa_cons (pe_ix (ixK rIxT K ix_tup) (pv 0) pe_int (fun _ _ => rfl)) pa_nil))))))))) (pss_one (ps_ret pe_bl)) pss_nil)
      (pss_one (ps_ret (pe_and (pe_callI (ok_is_whole W) hr W.g_is_whole passL (pa_cons (pe_ix (ixK rIxT K ix_tup) (pv 0) pe_int (fun _ _ => rfl)) pa_nil)) (pe_one (pe_cmpR op_ge (pe_ix (ixK rIxT K ix_tup) (pv 0) pe_int (fun _ _ => rfl)) pe_int (nomark _))))))), ?_⟩
  try dsimp only [cxOf, Cx.blk, Cx.blkE]
  repeat fail "w"
  refine b_ifnb (fun h1 => ?_) (fun h1 => ?_)
  · repeat fail "w"
    refine b_ifnb (fun h2 => ?_) (fun h2 => ?_)
    · repeat fail "w"
      simp [nameB, h1, h2]
    · repeat fail "w"
      simp [nameB, h2]
  · repeat fail "w"
    simp [nameB, h1]
abbrev N_is_name_letters : List Str := ["thing"]
abbrev P_is_name_letters : List Str := ["thing"]
theorem sc_is_name_letters : FnScope N_is_name_letters P_is_name_letters (defScope s_is_name_letters) := ⟨rfl, rfl, rfl, by decide +kernel, rfl, by decide +kernel, by decide +kernel⟩
theorem ok_is_name_letters (W : Wd w K mg) : FnI P w K mg base 2 (He.ga K "is_name_letters") (sp_is_name K) := by
  obtain ⟨fd, F⟩ := W.fd_is_name_letters
  refine FnI.of F sc_is_name_letters (fun _ _ _ _ _ _ us hl => match us, hl with | [_], _ => rfl) (fun _ _ => rfl) fun cdv A outer s H E hr ⟨a, b, n⟩ ⟨ha, hb⟩ => ⟨_, (pss_cons (ps_if (PW.pt (pw_or (pt_not (pt_val (pe_callB (callK rIsi K call_isi) rfl W.f_isinstance PyProof.Rows.Boot.«isinstance» (pa_cons (pv 0) (pa_cons (pe_bltn (v := .ty "tuple") rfl W.f_tuple PyProof.Rows.Boot.«tuple» rfl) pa_nil))))) (pw_or1 (pt_cmpR (opK rNeD K (op_neD hr.units)) (pe_callB (callK rLenD K call_lenD2) rfl W.f_len PyProof.Rows.Boot.«len» (pa_cons (pv 0) pa_nil)) pe_int (nomark _))))) (pss_one (ps_ret pe_bl)) pss_nil)
      (pss_one (ps_ret (pe_and (pe_callI (ok_is_word W) hr W.g_is_word passL (pa_cons (pe_ix (ixK rIxT K ix_tup) (pv 0) pe_int (fun _ _ => rfl)) pa_nil)) (pe_and (pe_callI (ok_is_word W) hr W.g_is_word passL (pa_cons (pe_ix (ixK rIxT K ix_tup) (pv 0) pe_int (fun _ _ => rfl)) pa_nil)) (pe_one (pe_callI (ok_is_number W) hr W.g_is_number passL (pa_cons (pe_ix (ixK rIxT K ix_tup) (pv 0) pe_int (fun _ _ => rfl)) (pa_cons pe_int pa_nil))))))))), ?_⟩
  try dsimp only [cxOf, Cx.blk, Cx.blkE]
  repeat fail "w"
  cases h1 : wordB a with
  | true =>
    repeat fail "w"
    cases h2 : wordB b with
    | true =>
      repeat fail "w"
      refine ⟨(n, 1), rfl, trivial, ?_⟩
      repeat fail "w"
      simp [nameB, h1, h2]
    | false =>
      repeat fail "w"
      simp [nameB, h2]
  | false =>
    repeat fail "w"
    simp [nameB, h1]
abbrev N_is_house : List Str := ["thing"]
abbrev P_is_house : List Str := ["thing"]
theorem sc_is_house : FnScope N_is_house P_is_house (defScope s_is_house) := ⟨rfl, rfl, rfl, by decide +kernel, rfl, by decide +kernel, by decide +kernel⟩
abbrev sp_is_house (K : PySem.W.Frag) : Sp := spD K (CN K) (fun _ => Mode.no) (fun z : Str => [.d (.str z)]) Sm (fun z y => y = .bool (houseB z)) (fun _ => False)
theorem ok_is_house (W : Wd w K mg) : FnI P w K mg base 2 (He.ga K "is_house") (sp_is_house K) := by
  obtain ⟨fd, F⟩ := W.fd_is_house
  refine FnI.of F sc_is_house (fun _ _ _ _ _ _ us hl => match us, hl with | [_], _ => rfl) (fun _ _ => rfl) fun cdv A outer s H E hr z hz => ⟨_, (pss_one (ps_ret (pe_and (pe_callI (ok_is_word W) hr W.g_is_word passL (pa_cons (pv 0) pa_nil)) (pe_one (pe_cmpR (opK rNeD K (op_neD hr.units)) (pv 0) pe_str (nomark _)))))), ?_⟩
  have ho := hz.ok
  try dsimp only [cxOf, Cx.blk, Cx.blkE]
  repeat fail "w"
  cases h1 : wordB z with
  | true =>
    repeat fail "w"
    simp [houseB, h1]
  | false =>
    repeat fail "w"
    simp [houseB, h1]
abbrev N_is_clause : List Str := ["thing"]
abbrev P_is_clause : List Str := ["thing"]
theorem sc_is_clause : FnScope N_is_clause P_is_clause (defScope s_is_clause) := ⟨rfl, rfl, rfl, by decide +kernel, rfl, by decide +kernel, by decide +kernel⟩
abbrev sp_is_clause (K : PySem.W.Frag) : Sp := spD K (CN K) (fun _ => Mode.no) (fun i : Int => [.d (.int i)]) (fun _ => True) (fun i y => y = .bool (clauseB i)) (fun _ => False)
theorem ok_is_clause (W : Wd w K mg) : FnI P w K mg base 2 (He.ga K "is_clause") (sp_is_clause K) := by
  obtain ⟨fd, F⟩ := W.fd_is_clause
  refine FnI.of F sc_is_clause (fun _ _ _ _ _ _ us hl => match us, hl with | [_], _ => rfl) (fun _ _ => rfl) fun cdv A outer s H E hr i _ => ⟨_, (pss_one (ps_ret (pe_and (pe_callI (ok_is_number W) hr W.g_is_number passL (pa_cons (pv 0) (pa_cons pe_int pa_nil))) (pe_one (pe_cmpR op_le (pv 0) (pe_gi W.i_MOST_CLAUSE_letters) (nomark _)))))), ?_⟩
  try dsimp only [cxOf, Cx.blk, Cx.blkE]
  repeat fail "w"
  refine ⟨(i, 0), rfl, trivial, ?_⟩
  repeat fail "w"
  refine b_if2 (fun h1 => ?_) (fun h1 => ?_)
  · repeat fail "w"
    simp [clauseB, h1]
  · repeat fail "w"
    simp [clauseB, h1]
end
end K84

/-! part K84D2 -/
set_option maxHeartbeats 1000000
/-! K84D2: the readers' small parts. -/
namespace K84
local macro_rules | `(tactic| fail "w") => `(tactic| (first | with_reducible refine wp_neg ?_ | with_reducible refine wp_pick ?_ | with_reducible refine wp_draw ?_ | with_reducible refine ws_seq ?_ | with_reducible refine ws_nx ?_ | with_reducible refine ws_set ?_ | with_reducible refine ws_ret ?_ | with_reducible refine ws_if ?_ | with_reducible refine ws_drop ?_ | with_reducible refine wt_or ?_ | with_reducible refine wt_and ?_ | with_reducible refine wt_not ?_ | with_reducible refine wt_B ?_ | with_reducible refine wt_test ?_ | with_reducible refine wp_chain ?_ | with_reducible refine wp_andV ?_ | with_reducible refine wp_orV ?_ | with_reducible refine wp_notV ?_ | with_reducible refine wp_if ?_ | with_reducible refine wp_int ?_ | with_reducible refine wp_var (by with_unfolding_all rfl) ?_ | with_reducible refine wp_str ?_ | with_reducible refine wp_bl ?_ | with_reducible refine wp_non ?_ | with_reducible refine wp_ref ?_ | with_reducible refine wp_op ?_ | with_reducible refine wp_tup' ?_ | with_reducible refine wp_lst' ?_ | with_reducible refine wa_cons ?_ | with_reducible refine wa_nil ?_ | with_reducible refine wp_sl ?_ | with_reducible refine wo_none ?_ | with_reducible refine wo_some ?_ | with_reducible refine wp_isi' (by simp) ?_ | with_reducible refine wp_allIn (by with_unfolding_all rfl) (by assumption) (by with_unfolding_all exact of_decide_eq_true rfl) (by with_unfolding_all rfl) ?_ | with_reducible refine wp_cb ?_ | with_reducible refine wp_m1 ?_ | with_reducible refine rs_T1 ?_ | with_reducible refine rs_T' (by with_unfolding_all rfl) (by with_unfolding_all rfl) ?_ | with_reducible refine wi_list ?_ | with_reducible refine wi_tup ?_ | with_reducible refine wi_str ?_ | with_reducible refine wi_rng1 ?_ | with_reducible refine wi_rng2 ?_ | with_reducible refine wi_zipT ?_ | with_reducible refine wi_zipM ?_ | with_reducible refine wi_enum ?_ | with_reducible refine rd_ib ?_ | with_reducible refine rd_ii ?_ | with_reducible refine rd_inSg ?_ | with_reducible refine rd_mod (by first | assumption | decide) ?_ | with_reducible refine rd_mul (cmul_r (by decide +kernel)) ?_ | with_reducible refine rd_mul (cmul_l (by decide +kernel)) ?_ | with_reducible refine rc_max ?_ | with_reducible refine rc_min ?_ | with_reducible refine rd_eqI ?_ | with_reducible refine rd_neI ?_ | with_reducible refine rd_eqS (by first | assumption | decide +kernel) (by first | assumption | decide +kernel) ?_ | with_reducible refine rd_neS (by first | assumption | decide +kernel) (by first | assumption | decide +kernel) ?_ | with_reducible refine rd_iC (cpow_ok (by with_unfolding_all rfl)) ?_ | with_reducible refine rd_isN' (b := true) (by with_unfolding_all rfl) ?_ | with_reducible refine rd_isN' (b := false) (by with_unfolding_all rfl) ?_ | with_reducible refine rd_notN' (b := true) (by with_unfolding_all rfl) ?_ | with_reducible refine rd_notN' (b := false) (by with_unfolding_all rfl) ?_ | with_reducible refine rc_len (by first | assumption | with_unfolding_all rfl) ?_ | with_reducible refine rd_ixT0 ?_ | with_reducible refine rd_ixL0 ?_ | with_reducible refine rd_ixT (by first | assumption | with_unfolding_all rfl) ?_ | with_reducible refine rd_ixL (by first | assumption | with_unfolding_all rfl) ?_ | with_reducible refine wp_callF ?_ | with_reducible refine rc_tupL ?_ | with_reducible refine rc_strS ?_ | with_reducible refine rc_all ?_ | with_reducible refine L2.iteT ?_ | with_reducible refine ite_dT (by with_unfolding_all exact of_decide_eq_true rfl) ?_ | with_reducible refine ite_dF (by with_unfolding_all exact of_decide_eq_false rfl) ?_ | with_reducible refine ite_ndT (by with_unfolding_all exact of_decide_eq_true rfl) ?_ | with_reducible refine ite_ndF (by with_unfolding_all exact of_decide_eq_false rfl) ?_ | with_reducible refine L2.iteF ?_ | with_reducible refine ite_nt ?_ | with_reducible refine ite_nf ?_ | refine ⟨_, true, rfl, rfl, ?_⟩ | refine ⟨_, false, rfl, rfl, ?_⟩ | with_reducible refine ⟨_, rfl, ?_⟩ | with_reducible refine ⟨_, _, rfl, ?_⟩ | with_reducible refine And.intro (by first | assumption | exact trivial | with_unfolding_all exact of_decide_eq_true rfl) ?_ | with_reducible refine And.intro Mode.Sub.no ?_ | with_reducible refine ⟨_, (by with_unfolding_all rfl), (by with_unfolding_all exact of_decide_eq_true rfl), ?_⟩))
open PySem PySem.Spec PyProof.Rows L2
section
variable {P : Program} {w : World} {K : PySem.W.Frag} {mg : Str → Option Value} {base : Heap}
abbrev N_number_of : List Str := ["word", "sign"]
abbrev P_number_of : List Str := ["word"]
theorem sc_number_of : FnScope N_number_of P_number_of (defScope s_number_of) := ⟨rfl, rfl, rfl, by decide +kernel, rfl, by decide +kernel, by decide +kernel⟩
abbrev sp_number_of (K : PySem.W.Frag) : Sp := spD K (CN K) (fun _ => Mode.no) (fun z : Str => [.d (.str z)]) Sm (fun z y => ∃ i, numB z = some i ∧ y = .int i) (fun z => numB z = none)
theorem ok_number_of (W : Wd w K mg) : FnI P w K mg base 3 (He.ga K "number_of") (sp_number_of K) := by
  obtain ⟨fd, F⟩ := W.fd_number_of
  refine FnI.of F sc_number_of (fun _ _ _ _ _ _ us hl => match us, hl with | [_], _ => rfl) (fun _ _ => rfl) fun cdv A outer s H E hr z hz => ⟨_, (pss_cons (ps_if (PW.pt (pw_or (pt_cmpR (opK rEqD K (op_eqD hr.units)) (pv 0) pe_str (nomark _)) (pw_or (pt_not (pt_val (pe_callB (callK rAll K (cr_all rfl)) rfl W.f_all PyProof.Rows.Boot.«all» (pa_cons (pe_lc (own := [("sign", 1)]) (g := gName 1) (tt := tYes) rfl sc_number_of.nd (pi_str (pv 0)) (blkOk_by (own := [("sign", 1)]) (N := N_number_of) (sc := defScope s_number_of) (by decide +kernel)) (fun _ _ _ _ _ => (pg_name (i := 1) sc_number_of.nd rfl (Or.inl rfl))) (fun _ _ _ _ _ => pts_nil) (fun _ _ _ _ _ => (pe_cmpR op_inSg (pv 1) (pe_gi W.s_FIGURES) (by rfl)))) pa_nil)))) (pw_or1 (PW.pt (pw_and (pt_cmpR (opK rEqD K (op_eqD hr.units)) (pe_ix ix_str (pv 0) pe_int (fun _ _ => rfl)) pe_str (nomark _)) (pw_and1 (pt_cmpR (opK rNeD K (op_neD hr.units)) (pv 0) pe_str (nomark _))))))))) (pss_one (ps_raise rfl (takes_of rfl rfl rfl rfl) (pmk_NL W hr))) pss_nil)
      (pss_one (ps_ret (pe_callTy call_intS rfl W.f_int PyProof.Rows.Boot.«int» (pa_cons (pv 0) pa_nil))))), ?_⟩
  have hl := hz.lenD
  have hz' := hz.len
  have ho := hz.ok
  have hb : z.length ≤ 100000 := by omega
  try dsimp only [cxOf, Cx.blk, Cx.blkE]
  repeat fail "w"
  refine b_if2 (fun h1 => ?_) (fun h1 => ?_)
  · repeat fail "w"
    refine ws_raise W.rc1 ?_
    show numB z = none
    simp [numB, numOk, h1]
  · repeat fail "w"
    refine b_ifnb (fun h2 => ?_) (fun h2 => ?_)
    · repeat fail "w"
      obtain ⟨c, r, hcr⟩ : ∃ c r, z.cps.toList = c :: r := by
        cases e : z.cps.toList with
        | nil => exact absurd (nil_str.mp e) h1
        | cons c r => exact ⟨c, r, rfl⟩
      have hc' := ok_sign ho hcr
      refine rd_ixS0 hz' hcr ?_
      repeat fail "w"
      refine b_if2 (fun h3 => ?_) (fun h3 => ?_)
      · repeat fail "w"
        refine b_ifn (fun h4 => ?_) (fun h4 => ?_)
        · repeat fail "w"
          have hk := numOk_of hcr h1 h2 fun q => q.2 h4
          refine rc_intS (numVal_eq h1 h2 hz') (by omega) ?_
          exact ⟨_, rfl, numVal z, by rw [numB, if_pos hk], rfl⟩
        · repeat fail "w"
          refine ws_raise W.rc1 ?_
          show numB z = none
          rw [numB, numOk_no hcr ⟨(sign_zero c).mp h3, h4⟩]
          rfl
      · repeat fail "w"
        have hk := numOk_of hcr h1 h2 fun q => h3 ((sign_zero c).mpr q.1)
        refine rc_intS (numVal_eq h1 h2 hz') (by omega) ?_
        exact ⟨_, rfl, numVal z, by rw [numB, if_pos hk], rfl⟩
    · repeat fail "w"
      refine ws_raise W.rc1 ?_
      show numB z = none
      have h2' : z.cps.toList.all figB = false := h2
      simp [numB, numOk, h2']
abbrev N_law_whole : List Str := ["_law_word_here", "_law_least", "_law_most", "_law_sign"]
abbrev P_law_whole : List Str := ["_law_word_here", "_law_least", "_law_most"]
theorem sc_law_whole : FnScope N_law_whole P_law_whole (defScope s_law_whole) := ⟨rfl, rfl, rfl, by decide +kernel, rfl, by decide +kernel, by decide +kernel⟩
abbrev sp_law_whole (K : PySem.W.Frag) : Sp := spD K (CN K) (fun _ => Mode.no) (fun p : Str × Int × Int => [.d (.str p.1), .d (.int p.2.1), .d (.int p.2.2)]) (fun p => Sm p.1) (fun p y => y = optI (wholeB p.1 p.2.1 p.2.2)) (fun _ => False)
theorem ok_law_whole (W : Wd w K mg) : FnI P w K mg base 1 (He.ga K "_law_whole") (sp_law_whole K) := by
  obtain ⟨fd, F⟩ := W.fd_law_whole
  refine FnI.of F sc_law_whole (fun _ _ _ _ _ _ us hl => match us, hl with | [_, _, _], _ => rfl) (fun _ _ => rfl) fun cdv A outer s H E hr ⟨z, lo, hi⟩ hz => ⟨_, (pss_cons (ps_if (PW.pt (pw_or (pt_cmpR (opK rEqD K (op_eqD hr.units)) (pv 0) pe_str (nomark _)) (pw_or (pt_not (pt_val (pe_callB (callK rAll K (cr_all rfl)) rfl W.f_all PyProof.Rows.Boot.«all» (pa_cons (pe_lc (own := [("_law_sign", 3)]) (g := gName 3) (tt := tYes) rfl sc_law_whole.nd (pi_str (pv 0)) (blkOk_by (own := [("_law_sign", 3)]) (N := N_law_whole) (sc := defScope s_law_whole) (by decide +kernel)) (fun _ _ _ _ _ => (pg_name (i := 3) sc_law_whole.nd rfl (Or.inl rfl))) (fun _ _ _ _ _ => pts_nil) (fun _ _ _ _ _ => (pe_cmpR op_inSg (pv 3) pe_str (by rfl)))) pa_nil)))) (pw_or1 (PW.pt (pw_and (pt_cmpR (opK rNeD K (op_neD hr.units)) (pv 0) pe_str (nomark _)) (pw_and1 (pt_cmpR (opK rEqD K (op_eqD hr.units)) (pe_ix ix_str (pv 0) pe_int (fun _ _ => rfl)) pe_str (nomark _))))))))) (pss_one (ps_ret pe_non)) pss_nil)
      (pss_one (ps_ret (pe_ifExp (pt_chain op_le op_le (pv 1) (pe_callTy call_intS rfl W.f_int PyProof.Rows.Boot.«int» (pa_cons (pv 0) pa_nil)) (pv 2)) (pe_callTy call_intS rfl W.f_int PyProof.Rows.Boot.«int» (pa_cons (pv 0) pa_nil)) pe_non)))), ?_⟩
  have hz : Sm z := hz
  have hl := hz.lenD
  have hz' := hz.len
  have ho := hz.ok
  have hb : z.length ≤ 100000 := by omega
  have fin : ∀ {c : Nat} {r : List Nat}, z.cps.toList = c :: r → z ≠ "" → z.cps.toList.all figB = true → ¬ (c = 48 ∧ z ≠ "0") → numOk z = true := fun e a b c => numOk_of e a b c
  try dsimp only [cxOf, Cx.blk, Cx.blkE]
  repeat fail "w"
  refine b_if2 (fun h1 => ?_) (fun h1 => ?_)
  · repeat fail "w"
    simp [wholeB, numOk, h1, optI]
  · repeat fail "w"
    refine b_ifnb (fun h2 => ?_) (fun h2 => ?_)
    · repeat fail "w"
      obtain ⟨c, r, hcr⟩ : ∃ c r, z.cps.toList = c :: r := by
        cases e : z.cps.toList with
        | nil => exact absurd (nil_str.mp e) h1
        | cons c r => exact ⟨c, r, rfl⟩
      have hc' := ok_sign ho hcr
      refine b_ifn (fun h4 => ?_) (fun h4 => ?_)
      · repeat fail "w"
        have hk := numOk_of hcr h1 h2 fun q => q.2 h4
        refine rc_intS (numVal_eq h1 h2 hz') (by omega) ?_
        repeat fail "w"
        refine b_if2 (fun h5 => ?_) (fun h5 => ?_)
        · repeat fail "w"
          refine b_if2 (fun h6 => ?_) (fun h6 => ?_)
          · repeat fail "w"
            refine rc_intS (numVal_eq h1 h2 hz') (by omega) ?_
            simp [wholeB, hk, h5, h6, optI]
          · repeat fail "w"
            simp [wholeB, hk, h5, h6, optI]
        · repeat fail "w"
          simp [wholeB, hk, h5, optI]
      · repeat fail "w"
        refine rd_ixS0 hz' hcr ?_
        repeat fail "w"
        refine b_if2 (fun h3 => ?_) (fun h3 => ?_)
        · repeat fail "w"
          simp [wholeB, numOk_no hcr ⟨(sign_zero c).mp h3, h4⟩, optI]
        · repeat fail "w"
          have hk := numOk_of hcr h1 h2 fun q => h3 ((sign_zero c).mpr q.1)
          refine rc_intS (numVal_eq h1 h2 hz') (by omega) ?_
          repeat fail "w"
          refine b_if2 (fun h5 => ?_) (fun h5 => ?_)
          · repeat fail "w"
            refine b_if2 (fun h6 => ?_) (fun h6 => ?_)
            · repeat fail "w"
              refine rc_intS (numVal_eq h1 h2 hz') (by omega) ?_
              simp [wholeB, hk, h5, h6, optI]
            · repeat fail "w"
              simp [wholeB, hk, h5, h6, optI]
          · repeat fail "w"
            simp [wholeB, hk, h5, optI]
    · repeat fail "w"
      have h2' : z.cps.toList.all figB = false := h2
      simp [wholeB, numOk, h2', optI]
abbrev N_law_called : List Str := ["_law_word_here", "_law_sign"]
abbrev P_law_called : List Str := ["_law_word_here"]
theorem sc_law_called : FnScope N_law_called P_law_called (defScope s_law_called) := ⟨rfl, rfl, rfl, by decide +kernel, rfl, by decide +kernel, by decide +kernel⟩
abbrev sp_law_called (K : PySem.W.Frag) : Sp := spD K (CN K) (fun _ => Mode.no) (fun z : Str => [.d (.str z)]) Sm (fun z y => y = .bool (wordB z)) (fun _ => False)
theorem ok_law_called (W : Wd w K mg) : FnI P w K mg base 1 (He.ga K "_law_called") (sp_law_called K) := by
  obtain ⟨fd, F⟩ := W.fd_law_called
  refine FnI.of F sc_law_called (fun _ _ _ _ _ _ us hl => match us, hl with | [_], _ => rfl) (fun _ _ => rfl) fun cdv A outer s H E hr z hz => ⟨_, (pss_one (ps_ret (pe_and (pe_chain op_lt op_lt pe_int (pe_callB (callK rLenD K call_lenD2) rfl W.f_len PyProof.Rows.Boot.«len» (pa_cons (pv 0) pa_nil)) pe_int) (pe_one (pe_callB (callK rAll K (cr_all rfl)) rfl W.f_all PyProof.Rows.Boot.«all» (pa_cons (pe_lc (own := [("_law_sign", 1)]) (g := gName 1) (tt := tYes) rfl sc_law_called.nd (pi_str (pv 0)) (blkOk_by (own := [("_law_sign", 1)]) (N := N_law_called) (sc := defScope s_law_called) (by decide +kernel)) (fun _ _ _ _ _ => (pg_name (i := 1) sc_law_called.nd rfl (Or.inl rfl))) (fun _ _ _ _ _ => pts_nil) (fun _ _ _ _ _ => (pe_cmpR op_inSg (pv 1) pe_str (by rfl)))) pa_nil)))))), ?_⟩
  have hl := hz.lenD
  have hz' := hz.len
  have hb : z.length ≤ 100000 := by omega
  try dsimp only [cxOf, Cx.blk, Cx.blkE]
  repeat fail "w"
  refine b_if2 (fun h1 => ?_) (fun h1 => ?_)
  · repeat fail "w"
    refine b_if2 (fun h2 => ?_) (fun h2 => ?_)
    · repeat fail "w"
      have h1' : 1 ≤ z.length := by omega
      have h2' : z.length ≤ 12 := by omega
      unfold wordB
      rw [decide_eq_true h1', decide_eq_true h2']
      rfl
    · repeat fail "w"
      have h2' : ¬ z.length ≤ 12 := by omega
      simp [wordB, h2']
  · repeat fail "w"
    have h1' : ¬ 1 ≤ z.length := by omega
    simp [wordB, h1']
abbrev N_name_of_text : List Str := ["word", "parts"]
abbrev P_name_of_text : List Str := ["word"]
theorem sc_name_of_text : FnScope N_name_of_text P_name_of_text (defScope s_name_of_text) := ⟨rfl, rfl, rfl, by decide +kernel, rfl, by decide +kernel, by decide +kernel⟩
abbrev sp_name_of_text (K : PySem.W.Frag) : Sp := spD K (CN K) (fun _ => Mode.no) (fun z : Str => [.d (.str z)]) Sm (fun z y => ∃ p, nameOf z = some p ∧ y = nameD p) (fun z => nameOf z = none)
theorem ok_name_of_text (W : Wd w K mg) : FnI P w K mg base 4 (He.ga K "name_of_text") (sp_name_of_text K) := by
  obtain ⟨fd, F⟩ := W.fd_name_of_text
  refine FnI.of F sc_name_of_text (fun _ _ _ _ _ _ us hl => match us, hl with | [_], _ => rfl) (fun _ _ => rfl) fun cdv A outer s H E hr z hz => ⟨_, (pss_cons (ps_set (i := 1) sc_name_of_text.nd rfl (Or.inl rfl) (pe_m1 PySem.F.slot_str_split PySem.F.type_str_split mt_splitD (pv 0) pe_str rfl))
      (pss_cons (ps_if (pt_cmpR (opK rNeD K (op_neD hr.units)) (pe_callB (callK rLenD K call_lenD2) rfl W.f_len PyProof.Rows.Boot.«len» (pa_cons (pv 1) pa_nil)) pe_int (nomark _)) (pss_one (ps_raise rfl (takes_of rfl rfl rfl rfl) (pmk_NL W hr))) pss_nil)
      (pss_one (ps_ret (pe_tup (pa_cons (pe_ix (ixK rIxL K ix_list) (pv 1) pe_int (fun _ _ => rfl)) (pa_cons (pe_ix (ixK rIxL K ix_list) (pv 1) pe_int (fun _ _ => rfl)) (pa_cons (pe_callI (ok_number_of W) hr W.g_number_of (passes_call (takes_of rfl rfl rfl rfl) (fun _ _ _ _ h => h)) (pa_cons (pe_ix (ixK rIxL K ix_list) (pv 1) pe_int (fun _ _ => rfl)) pa_nil)) pa_nil)))))))), ?_⟩
  have hz' := hz.len
  have hsz : z.length + 2 ≤ sizeLine := by rw [sizeLine_eq]; omega
  have hp : ∀ p ∈ Txt.split z ".", Sm p := fun p h => split_Sm dot_tl (by decide) hz h
  have e0 : nameOf z = match Txt.split z "." with | [a, b, c] => (numB c).map fun n => (a, b, n) | _ => none := rfl
  try dsimp only [cxOf, Cx.blk, Cx.blkE]
  repeat fail "w"
  refine rt_split (by decide +kernel) hsz ?_
  generalize Txt.split z "." = parts at e0 hp
  match parts, e0, hp with
  | [], e0, hp =>
    repeat fail "w"
    refine ws_raise W.rc1 ?_
    exact e0
  | [a], e0, hp =>
    repeat fail "w"
    refine ws_raise W.rc1 ?_
    exact e0
  | [a, b], e0, hp =>
    repeat fail "w"
    refine ws_raise W.rc1 ?_
    exact e0
  | [a, b, c], e0, hp =>
    have hc : Sm c := hp c (by simp)
    repeat fail "w"
    refine wp_call (.inl rfl) ?_
    repeat fail "w"
    refine ⟨fun d ⟨i, hi, ed⟩ => ?_, fun hx => ?_⟩
    · subst ed
      repeat fail "w"
      exact ⟨(a, b, i), by rw [e0]; show (numB c).map _ = _; rw [hi]; rfl, rfl⟩
    · show nameOf z = none
      rw [e0]
      show (numB c).map _ = none
      rw [hx]
      rfl
  | a :: b :: c :: d :: r, e0, hp =>
    repeat fail "w"
    refine ws_raise W.rc1 ?_
    exact e0
abbrev N_law_named : List Str := ["_law_parts", "_law_number_here"]
abbrev P_law_named : List Str := ["_law_parts"]
theorem sc_law_named : FnScope N_law_named P_law_named (defScope s_law_named) := ⟨rfl, rfl, rfl, by decide +kernel, rfl, by decide +kernel, by decide +kernel⟩
abbrev sp_law_named (K : PySem.W.Frag) : Sp := spD K (CN K) (fun _ => Mode.no) (fun zs : List Str => [.d (.list (zs.map PyData.str))]) (fun zs => ∀ z ∈ zs, Sm z) (fun zs y => y = optN (namedB zs)) (fun _ => False)
theorem ok_law_named (W : Wd w K mg) : FnI P w K mg base 2 (He.ga K "_law_named") (sp_law_named K) := by
  obtain ⟨fd, F⟩ := W.fd_law_named
  refine FnI.of F sc_law_named (fun _ _ _ _ _ _ us hl => match us, hl with | [_], _ => rfl) (fun _ _ => rfl) fun cdv A outer s H E hr zs hp => ⟨_, (pss_cons (ps_if (PW.pt (pw_or (pt_cmpR (opK rNeD K (op_neD hr.units)) (pe_callB (callK rLenD K call_lenD2) rfl W.f_len PyProof.Rows.Boot.«len» (pa_cons (pv 0) pa_nil)) pe_int (nomark _)) (pw_or (pt_not (pt_val (pe_callI (ok_law_called W) hr W.g_law_called passL (pa_cons (pe_ix (ixK rIxL K ix_list) (pv 0) pe_int (fun _ _ => rfl)) pa_nil)))) (pw_or1 (pt_not (pt_val (pe_callI (ok_law_called W) hr W.g_law_called passL (pa_cons (pe_ix (ixK rIxL K ix_list) (pv 0) pe_int (fun _ _ => rfl)) pa_nil)))))))) (pss_one (ps_ret pe_non)) pss_nil)
      (pss_cons (ps_set (i := 1) sc_law_named.nd rfl (Or.inl rfl) (pe_callI (ok_law_whole W) hr W.g_law_whole passL (pa_cons (pe_ix (ixK rIxL K ix_list) (pv 0) pe_int (fun _ _ => rfl)) (pa_cons pe_int (pa_cons (pe_op op_pow pe_int pe_int) pa_nil)))))
      (pss_one (ps_ret (pe_ifExp (pt_cmpR op_isNn (pv 1) pe_non (nomark _)) pe_non (pe_tup (pa_cons (pe_ix (ixK rIxL K ix_list) (pv 0) pe_int (fun _ _ => rfl)) (pa_cons (pe_ix (ixK rIxL K ix_list) (pv 0) pe_int (fun _ _ => rfl)) (pa_cons (pv 1) pa_nil))))))))), ?_⟩
  match zs, hp with
  | [], hp =>
    try dsimp only [cxOf, Cx.blk, Cx.blkE]
    repeat fail "w"
    rfl
  | [a], hp =>
    try dsimp only [cxOf, Cx.blk, Cx.blkE]
    repeat fail "w"
    rfl
  | [a, b], hp =>
    try dsimp only [cxOf, Cx.blk, Cx.blkE]
    repeat fail "w"
    rfl
  | [a, b, c], hp =>
    have ha : Sm a := hp a (by simp)
    have hb : Sm b := hp b (by simp)
    have hc : Sm c := hp c (by simp)
    have e0 : namedB [a, b, c] = if wordB a = true ∧ wordB b = true then (wholeB c 1 (10 ^ 60)).map fun n => (a, b, n) else none := rfl
    try dsimp only [cxOf, Cx.blk, Cx.blkE]
    repeat fail "w"
    refine b_ifnb (fun h1 => ?_) (fun h1 => ?_)
    · repeat fail "w"
      refine b_ifnb (fun h2 => ?_) (fun h2 => ?_)
      · repeat fail "w"
        refine ⟨(c, 1, 10 ^ 60), rfl, hc, ?_⟩
        rw [if_pos ⟨h1, h2⟩] at e0
        cases hw : wholeB c 1 (10 ^ 60) with
        | none =>
          rw [hw] at e0
          repeat fail "w"
          rw [e0]
          rfl
        | some n =>
          rw [hw] at e0
          repeat fail "w"
          rw [e0]
          rfl
      · repeat fail "w"
        rw [e0, if_neg (fun q => by rw [q.2] at h2; cases h2)]
        rfl
    · repeat fail "w"
      rw [e0, if_neg (fun q => by rw [q.1] at h1; cases h1)]
      rfl
  | a :: b :: c :: d :: r, hp =>
    try dsimp only [cxOf, Cx.blk, Cx.blkE]
    repeat fail "w"
    rfl
abbrev N_deed_of : List Str := ["words", "word"]
abbrev P_deed_of : List Str := ["words"]
theorem sc_deed_of : FnScope N_deed_of P_deed_of (defScope s_deed_of) := ⟨rfl, rfl, rfl, by decide +kernel, rfl, by decide +kernel, by decide +kernel⟩
abbrev sp_deed_of (K : PySem.W.Frag) : Sp := spD K (CN K) (fun _ => Mode.no) (fun zs : List Str => [.d (.list (zs.map PyData.str))]) (fun zs => (∀ z ∈ zs, Sm z) ∧ zs.length ≤ 1000) (fun zs y => ∃ d, deedOf zs = some d ∧ y = .tuple d.L) (fun zs => deedOf zs = none)
theorem ok_deed_of (W : Wd w K mg) : FnI P w K mg base 4 (He.ga K "deed_of") (sp_deed_of K) := by
  obtain ⟨fd, F⟩ := W.fd_deed_of
  refine FnI.of F sc_deed_of (fun _ _ _ _ _ _ us hl => match us, hl with | [_], _ => rfl) (fun _ _ => rfl) fun cdv A outer s H E hr zs ⟨hp, hlen⟩ => ⟨_, (pss_cons (ps_if (pt_cmpR (opK rEqD K (op_eqD hr.units)) (pe_slice (slK rSlL K sl_list) (pv 0) po_none (po_some pe_int)) (pe_lst (pa_cons pe_str pa_nil)) (nomark _)) (pss_one (ps_ret (pe_callTy (callK rTupL K call_tupL) rfl W.f_tuple PyProof.Rows.Boot.«tuple» (pa_cons (pv 0) pa_nil)))) pss_nil)
      (pss_cons (ps_if (pt_cmpR (opK rEqD K (op_eqD hr.units)) (pe_slice (slK rSlL K sl_list) (pv 0) po_none (po_some pe_int)) (pe_lst (pa_cons pe_str pa_nil)) (nomark _)) (pss_cons (ps_if (PW.pt (pw_or (pt_cmpR (opK rNeD K (op_neD hr.units)) (pe_callB (callK rLenD K call_lenD2) rfl W.f_len PyProof.Rows.Boot.«len» (pa_cons (pv 0) pa_nil)) pe_int (nomark _)) (pw_or1 (pt_cmpR (opK rNeD K (op_neD hr.units)) (pe_ix (ixK rIxL K ix_list) (pv 0) pe_int (fun _ _ => rfl)) pe_str (nomark _))))) (pss_one (ps_raise rfl (takes_of rfl rfl rfl rfl) (pmk_NL W hr))) pss_nil)
      (pss_one (ps_ret (pe_tup (pa_cons pe_str (pa_cons (pe_callI (ok_number_of W) hr W.g_number_of (passes_call (takes_of rfl rfl rfl rfl) (fun _ _ _ _ h => h)) (pa_cons (pe_ix (ixK rIxL K ix_list) (pv 0) pe_int (fun _ _ => rfl)) pa_nil)) (pa_cons (pe_ix (ixK rIxL K ix_list) (pv 0) pe_int (fun _ _ => rfl)) pa_nil))))))) pss_nil)
      (pss_one (ps_ret (pe_callTy (callK rTupL K call_tupL) rfl W.f_tuple PyProof.Rows.Boot.«tuple» (pa_cons (pe_op op_cat (pe_slice (slK rSlL K sl_list) (pv 0) po_none (po_some pe_int)) (pe_lcE (own := [("word", 1)]) (g := gName 1) (tt := tYes) rfl rfl (takes_of rfl rfl rfl rfl) (fun _ _ _ _ h => h) rfl sc_deed_of.nd (pi_list (pe_slice (slK rSlL K sl_list) (pv 0) (po_some pe_int) po_none)) (blkOk_by (own := [("word", 1)]) (N := N_deed_of) (sc := defScope s_deed_of) (by decide +kernel)) (fun _ _ _ _ _ _ => (pg_name (i := 1) sc_deed_of.nd rfl (Or.inl rfl))) (fun _ _ _ _ _ _ => pts_nil) (fun _ _ _ _ _ _ hp => (pe_callI (ok_number_of W) hr W.g_number_of hp (pa_cons (pv 1) pa_nil))))) pa_nil)))))), ?_⟩
  try dsimp only [cxOf, Cx.blk, Cx.blkE]
  repeat fail "w"
  have hok : ∀ n : Nat, ∀ z ∈ zs.take n, okS z = true := fun n z hz => (hp z (List.mem_of_mem_take hz)).ok
  have hsay : ∀ z ∈ [("say" : Str)], okS z = true := by decide +kernel
  have hhand : ∀ z ∈ [("hand" : Str)], okS z = true := by decide +kernel
  refine rs_takeM 1 ?_
  repeat fail "w"
  refine rd_eqLW (zs.take 1) ["say"] rfl rfl (hok 1) hsay ?_
  repeat fail "w"
  refine b_if2 (fun h1 => ?_) (fun h1 => ?_)
  · have hz : zs = ("say" : Str) :: zs.drop 1 := by
      cases zs with
      | nil => cases h1
      | cons a r =>
        have e : a = "say" := by simpa using h1
        rw [e]
        rfl
    have e0 : deedOf zs = some (.say (zs.drop 1)) := by unfold deedOf; rw [if_pos h1]
    repeat fail "w"
    refine ⟨.say (zs.drop 1), e0, ?_⟩
    show PyData.tuple (zs.map PyData.str) = .tuple (PyData.str "say" :: (zs.drop 1).map PyData.str)
    conv => lhs; rw [hz]
    rfl
  · repeat fail "w"
    refine rs_takeM 1 ?_
    repeat fail "w"
    refine rd_eqLW (zs.take 1) ["hand"] rfl rfl (hok 1) hhand ?_
    repeat fail "w"
    refine b_if2 (fun h2 => ?_) (fun h2 => ?_)
    · have e0 : deedOf zs = if zs.length ≠ 4 ∨ zs.getD 2 "" ≠ "to" then none else (numB (zs.getD 1 "")).map fun c => .hand c (zs.getD 3 "") := by
        unfold deedOf
        rw [if_neg h1, if_pos h2]
      have hzl : (zs.map PyData.str).length = zs.length := List.length_map ..
      repeat fail "w"
      refine b_ifn (fun h3 => ?_) (fun h3 => ?_)
      · have h3' : zs.length = 4 := by rw [hzl] at h3; omega
        match zs, h3', hp, e0 with
        | [a, b, c, d], _, hp, e0 =>
          have hb : Sm b := hp b (by simp)
          have hc : okS c = true := (hp c (by simp)).ok
          have e1 : deedOf [a, b, c, d] = if c ≠ "to" then none else (numB b).map fun n => .hand n d := by
            rw [e0]
            by_cases hq : c = "to"
            · rw [if_neg (fun q => q.elim (fun q => q rfl) (fun q => q hq)), if_neg (fun q => q hq)]
              rfl
            · rw [if_pos (.inr hq), if_pos hq]
          repeat fail "w"
          refine b_ifn (fun h4 => ?_) (fun h4 => ?_)
          · rw [if_neg (fun q => q h4)] at e1
            repeat fail "w"
            refine wp_call (.inl rfl) ?_
            repeat fail "w"
            refine ⟨fun y ⟨i, hi, ey⟩ => ?_, fun hx => ?_⟩
            · subst ey
              repeat fail "w"
              exact ⟨.hand i d, by rw [e1, hi]; rfl, rfl⟩
            · show deedOf [a, b, c, d] = none
              rw [e1, show numB b = none from hx]
              rfl
          · repeat fail "w"
            refine ws_raise W.rc1 ?_
            show deedOf [a, b, c, d] = none
            rw [e1, if_pos h4]
      · repeat fail "w"
        refine ws_raise W.rc1 ?_
        rw [hzl] at h3
        have h3' : zs.length ≠ 4 := by omega
        show deedOf zs = none
        rw [e0, if_pos (.inl h3')]
    · have e0 : deedOf zs = ((zs.drop 1).mapM numB).map fun ns => .oth zs.head? ns := by
        unfold deedOf
        rw [if_neg h1, if_neg h2]
      repeat fail "w"
      refine rs_takeM 1 ?_
      repeat fail "w"
      refine wp_lcO (γ := Str) PyData.str (fun z => (numB z).map PyData.int) (fun a b e => PyData.str.inj e) ?_
      repeat fail "w"
      refine rs_dropM 1 ?_
      repeat fail "w"
      refine ⟨zs.drop 1, by rw [List.map_map]; rfl, by rw [List.length_drop]; omega, fun c hc => ⟨_, tgt_name (by decide), ?_⟩, fun ys hys => ?_⟩
      · have hcs : Sm c := hp c (List.mem_of_mem_drop hc)
        repeat fail "w"
        refine wp_call (.inl rfl) ?_
        repeat fail "w"
        refine ⟨fun y ⟨i, hi, ey⟩ => ⟨_, rfl, by rw [hi, ey]; rfl⟩, fun hx => ?_⟩
        show deedOf zs = none
        rw [e0, mapM_none hc hx]
        rfl
      · obtain ⟨ns, h3, h4⟩ := mapM_then hys
        have hyl : ys.length ≤ 1000 := by
          have := paired_len hys
          rw [List.length_drop] at this
          omega
        refine rd_catL (by rw [sizeLine_eq, List.length_map, List.length_take]; omega) ?_
        repeat fail "w"
        refine ⟨.oth zs.head? ns, by rw [e0, h3]; rfl, ?_⟩
        rw [h4]
        cases zs with
        | nil => rfl
        | cons a r => rfl
end
end K84

/-! part K84D6 -/
set_option maxHeartbeats 1000000
/-! K84D6: texts of names and deeds, the words of a text. -/
namespace K84
local macro_rules | `(tactic| fail "w") => `(tactic| (first | with_reducible refine wp_neg ?_ | with_reducible refine wp_pick ?_ | with_reducible refine wp_draw ?_ | with_reducible refine ws_seq ?_ | with_reducible refine ws_nx ?_ | with_reducible refine ws_set ?_ | with_reducible refine ws_ret ?_ | with_reducible refine ws_if ?_ | with_reducible refine ws_drop ?_ | with_reducible refine wt_or ?_ | with_reducible refine wt_and ?_ | with_reducible refine wt_not ?_ | with_reducible refine wt_B ?_ | with_reducible refine wt_test ?_ | with_reducible refine wp_chain ?_ | with_reducible refine wp_andV ?_ | with_reducible refine wp_orV ?_ | with_reducible refine wp_notV ?_ | with_reducible refine wp_if ?_ | with_reducible refine wp_int ?_ | with_reducible refine wp_var (by with_unfolding_all rfl) ?_ | with_reducible refine wp_str ?_ | with_reducible refine wp_bl ?_ | with_reducible refine wp_non ?_ | with_reducible refine wp_ref ?_ | with_reducible refine wp_op ?_ | with_reducible refine wp_tup' ?_ | with_reducible refine wp_lst' ?_ | with_reducible refine wa_cons ?_ | with_reducible refine wa_nil ?_ | with_reducible refine wp_sl ?_ | with_reducible refine wo_none ?_ | with_reducible refine wo_some ?_ | with_reducible refine wp_isi' (by simp) ?_ | with_reducible refine wp_allIn (by with_unfolding_all rfl) (by assumption) (by with_unfolding_all exact of_decide_eq_true rfl) (by with_unfolding_all rfl) ?_ | with_reducible refine wp_cb ?_ | with_reducible refine wp_m1 ?_ | with_reducible refine rs_T1 ?_ | with_reducible refine rs_T' (by with_unfolding_all rfl) (by with_unfolding_all rfl) ?_ | with_reducible refine wi_list ?_ | with_reducible refine wi_tup ?_ | with_reducible refine wi_str ?_ | with_reducible refine wi_rng1 ?_ | with_reducible refine wi_rng2 ?_ | with_reducible refine wi_zipT ?_ | with_reducible refine wi_zipM ?_ | with_reducible refine wi_enum ?_ | with_reducible refine rd_ib ?_ | with_reducible refine rd_ii ?_ | with_reducible refine rd_inSg ?_ | with_reducible refine rd_mod (by first | assumption | decide) ?_ | with_reducible refine rd_mul (cmul_r (by decide +kernel)) ?_ | with_reducible refine rd_mul (cmul_l (by decide +kernel)) ?_ | with_reducible refine rc_max ?_ | with_reducible refine rc_min ?_ | with_reducible refine rd_eqI ?_ | with_reducible refine rd_neI ?_ | with_reducible refine rd_eqS (by first | assumption | decide +kernel) (by first | assumption | decide +kernel) ?_ | with_reducible refine rd_neS (by first | assumption | decide +kernel) (by first | assumption | decide +kernel) ?_ | with_reducible refine rd_iC (cpow_ok (by with_unfolding_all rfl)) ?_ | with_reducible refine rd_isN' (b := true) (by with_unfolding_all rfl) ?_ | with_reducible refine rd_isN' (b := false) (by with_unfolding_all rfl) ?_ | with_reducible refine rd_notN' (b := true) (by with_unfolding_all rfl) ?_ | with_reducible refine rd_notN' (b := false) (by with_unfolding_all rfl) ?_ | with_reducible refine rc_len (by first | assumption | with_unfolding_all rfl) ?_ | with_reducible refine rd_ixT0 ?_ | with_reducible refine rd_ixL0 ?_ | with_reducible refine rd_ixT (by first | assumption | with_unfolding_all rfl) ?_ | with_reducible refine rd_ixL (by first | assumption | with_unfolding_all rfl) ?_ | with_reducible refine wp_callF ?_ | with_reducible refine rc_tupL ?_ | with_reducible refine rc_strS ?_ | with_reducible refine rc_all ?_ | with_reducible refine L2.iteT ?_ | with_reducible refine ite_dT (by with_unfolding_all exact of_decide_eq_true rfl) ?_ | with_reducible refine ite_dF (by with_unfolding_all exact of_decide_eq_false rfl) ?_ | with_reducible refine ite_ndT (by with_unfolding_all exact of_decide_eq_true rfl) ?_ | with_reducible refine ite_ndF (by with_unfolding_all exact of_decide_eq_false rfl) ?_ | with_reducible refine L2.iteF ?_ | with_reducible refine ite_nt ?_ | with_reducible refine ite_nf ?_ | refine ⟨_, true, rfl, rfl, ?_⟩ | refine ⟨_, false, rfl, rfl, ?_⟩ | with_reducible refine ⟨_, rfl, ?_⟩ | with_reducible refine ⟨_, _, rfl, ?_⟩ | with_reducible refine And.intro (by first | assumption | exact trivial | with_unfolding_all exact of_decide_eq_true rfl) ?_ | with_reducible refine And.intro Mode.Sub.no ?_ | with_reducible refine ⟨_, (by with_unfolding_all rfl), (by with_unfolding_all exact of_decide_eq_true rfl), ?_⟩))
open PySem PySem.Spec PyProof.Rows L2
section
variable {P : Program} {w : World} {K : PySem.W.Frag} {mg : Str → Option Value} {base : Heap}
theorem rc_strN {Γ : Ctx} {k : Dv → Prop} {i : Int} (h : Bi i) (q : k (.d (.str (numT i)))) : RC Γ rStr [.d (.int i)] k := rc_strI h.log q
theorem rc_str2 {Γ : Ctx} {k : Dv → Prop} {a : It2} (h : a.Ok) (q : k (.d (.str a.T))) : RC Γ rStr [.d a.D] k := by
  cases a with
  | s z => exact rc_strS q
  | i n => exact rc_strN h q
abbrev N_name_text : List Str := ["name"]
abbrev P_name_text : List Str := ["name"]
theorem sc_name_text : FnScope N_name_text P_name_text (defScope s_name_text) := ⟨rfl, rfl, rfl, by decide +kernel, rfl, by decide +kernel, by decide +kernel⟩
abbrev sp_name_text (K : PySem.W.Frag) : Sp := spD K (CN K) (fun _ => Mode.no) (fun p : Nm => [.d (nameD p)]) (fun p => NmOk p ∧ Bi p.2.2) (fun p y => y = .str (nameT p)) (fun _ => False)
theorem ok_name_text (W : Wd w K mg) : FnI P w K mg base 1 (He.ga K "name_text") (sp_name_text K) := by
  obtain ⟨fd, F⟩ := W.fd_name_text
  refine FnI.of F sc_name_text (fun _ _ _ _ _ _ us hl => match us, hl with | [_], _ => rfl) (fun _ _ => rfl) fun cdv A outer s H E hr ⟨a, b, n⟩ ⟨⟨h1, h2⟩, h3⟩ => ⟨_, (pss_one (ps_ret (pe_op op_catS (pe_op op_catS (pe_op op_catS (pe_op op_catS (pe_ix (ixK rIxT K ix_tup) (pv 0) pe_int (fun _ _ => rfl)) pe_str) (pe_ix (ixK rIxT K ix_tup) (pv 0) pe_int (fun _ _ => rfl))) pe_str) (pe_callTy call_str rfl W.f_str PyProof.Rows.Boot.«str» (pa_cons (pe_ix (ixK rIxT K ix_tup) (pv 0) pe_int (fun _ _ => rfl)) pa_nil))))), ?_⟩
  have k1 : a.length ≤ 500 := h1.len
  have k2 : b.length ≤ 500 := h2.len
  have k3 : (numT n).length ≤ 500 := (numT_Sm h3).len
  have kd : Str.length "." = 1 := by decide +kernel
  try dsimp only [cxOf, Cx.blk, Cx.blkE]
  repeat fail "w"
  refine rd_catS (by simp only [len_app, sizeLine_eq]; omega) ?_
  repeat fail "w"
  refine rd_catS (by simp only [len_app, sizeLine_eq]; omega) ?_
  repeat fail "w"
  refine rd_catS (by simp only [len_app, sizeLine_eq]; omega) ?_
  repeat fail "w"
  refine rc_strN h3 ?_
  repeat fail "w"
  refine rd_catS (by simp only [len_app, sizeLine_eq]; omega) ?_
  repeat fail "w"
  rfl
abbrev N_law_name_text : List Str := ["_law_name_here", "_law_part"]
abbrev P_law_name_text : List Str := ["_law_name_here"]
theorem sc_law_name_text : FnScope N_law_name_text P_law_name_text (defScope s_law_name_text) := ⟨rfl, rfl, rfl, by decide +kernel, rfl, by decide +kernel, by decide +kernel⟩
abbrev sp_law_name_text (K : PySem.W.Frag) : Sp := spD K (CN K) (fun _ => Mode.no) (fun p : Nm => [.d (nameD p)]) (fun p => NmOk p ∧ Bi p.2.2) (fun p y => y = .str (Txt.join "." [p.1, p.2.1, numT p.2.2])) (fun _ => False)
theorem ok_law_name_text (W : Wd w K mg) : FnI P w K mg base 1 (He.ga K "_law_name_text") (sp_law_name_text K) := by
  obtain ⟨fd, F⟩ := W.fd_law_name_text
  refine FnI.of F sc_law_name_text (fun _ _ _ _ _ _ us hl => match us, hl with | [_], _ => rfl) (fun _ _ => rfl) fun cdv A outer s H E hr ⟨a, b, n⟩ ⟨⟨h1, h2⟩, h3⟩ => ⟨_, (pss_one (ps_ret (pe_m1 PySem.F.slot_str_join PySem.F.type_str_join (mtK rJoin K mt_joinD) pe_str (pe_lc (own := [("_law_part", 1)]) (g := gName 1) (tt := tYes) rfl sc_law_name_text.nd (pi_tup (pv 0)) (blkOk_by (own := [("_law_part", 1)]) (N := N_law_name_text) (sc := defScope s_law_name_text) (by decide +kernel)) (fun _ _ _ _ _ => (pg_name (i := 1) sc_law_name_text.nd rfl (Or.inl rfl))) (fun _ _ _ _ _ => pts_nil) (fun _ _ _ _ _ => (pe_callTy call_str rfl W.f_str PyProof.Rows.Boot.«str» (pa_cons (pv 1) pa_nil)))) rfl))), ?_⟩
  have k1 : a.length ≤ 500 := h1.len
  have k2 : b.length ≤ 500 := h2.len
  have k3 : (numT n).length ≤ 500 := (numT_Sm h3).len
  have kd : Str.length "." = 1 := by decide +kernel
  try dsimp only [cxOf, Cx.blk, Cx.blkE]
  repeat fail "w"
  refine wp_lcG (γ := It2) It2.D (fun a => .str a.T) It2.D_inj ?_
  repeat fail "w"
  refine ⟨[.s a, .s b, .i n], rfl, by show 3 ≤ 100000; decide, fun c hc => ⟨_, tgt_name (by decide), ?_⟩, ?_⟩
  · have hok : c.Ok := by
      simp at hc
      rcases hc with rfl | rfl | rfl
      · exact h1
      · exact h2
      · exact h3
    repeat fail "w"
    refine rc_str2 hok ?_
    rfl
  · refine rt_join (ys := [a, b, numT n]) (by simp; omega) ?_
    repeat fail "w"
    rfl
abbrev N_words_of : List Str := ["text", "word"]
abbrev P_words_of : List Str := ["text"]
theorem sc_words_of : FnScope N_words_of P_words_of (defScope s_words_of) := ⟨rfl, rfl, rfl, by decide +kernel, rfl, by decide +kernel, by decide +kernel⟩
abbrev sp_words_of (K : PySem.W.Frag) : Sp := spD K (CN K) (fun _ => Mode.no) (fun z : Str => [.d (.str z)]) (fun z => z.length ≤ 90000 ∧ okS z = true) (fun z y => y = .list ((wordsOf z).map PyData.str)) (fun _ => False)
theorem ok_words_of (W : Wd w K mg) : FnI P w K mg base 3 (He.ga K "words_of") (sp_words_of K) := by
  obtain ⟨fd, F⟩ := W.fd_words_of
  refine FnI.of F sc_words_of (fun _ _ _ _ _ _ us hl => match us, hl with | [_], _ => rfl) (fun _ _ => rfl) fun cdv A outer s H E hr z ⟨h1, h2⟩ => ⟨_, (pss_cons (ps_if (pt_not (pt_val (pe_callB (callK rIsi K call_isi) rfl W.f_isinstance PyProof.Rows.Boot.«isinstance» (pa_cons (pv 0) (pa_cons (pe_bltn (v := .ty "str") rfl W.f_str PyProof.Rows.Boot.«str» rfl) pa_nil))))) (pss_one (ps_raise rfl (takes_of rfl rfl rfl rfl) (pmk_NL W hr))) pss_nil)
      (pss_one (ps_ret (pe_lc (own := [("word", 1)]) (g := gName 1) rfl sc_words_of.nd (pi_list (pe_m1 PySem.F.slot_str_split PySem.F.type_str_split mt_splitD (pv 0) pe_str rfl)) (blkOk_by (own := [("word", 1)]) (N := N_words_of) (sc := defScope s_words_of) (by decide +kernel)) (fun _ _ _ _ _ => (pg_name (i := 1) sc_words_of.nd rfl (Or.inl rfl))) (fun _ _ _ _ _ => pts_one (pt_cmpR (opK rNeD K (op_neD hr.units)) (pv 1) pe_str (nomark _))) (fun _ _ _ _ _ => (pv 1)))))), ?_⟩
  have h1 : z.length ≤ 90000 := h1
  try dsimp only [cxOf, Cx.blk, Cx.blkE]
  repeat fail "w"
  refine wp_lcIf (γ := Str) PyData.str PyData.str (fun p => !decide (p = "")) (fun a b e => PyData.str.inj e) ?_
  repeat fail "w"
  refine rt_split (by decide +kernel) (by rw [sizeLine_eq]; omega) ?_
  repeat fail "w"
  have hsp := split_len (z := z) blank_tl (by decide)
  refine ⟨Txt.split z " ", by rw [List.map_map]; rfl, by omega, fun c hc => ⟨_, tgt_name (by decide), ?_⟩, ?_⟩
  · have hok := split_ok blank_tl (by decide) h2 hc
    repeat fail "w"
    refine ⟨rfl, fun _ => ?_⟩
    repeat fail "w"
    rfl
  · repeat fail "w"
    rfl
end
end K84

/-! part K84D7 -/
set_option maxHeartbeats 1000000
/-! K84D7: the object Words. -/
namespace K84 -- plain
open PySem PySem.Spec PyProof.Rows L2
def takePrev (l : List Str) : Option (Int × List Str) := if l.headD "" = "after" then (match l with
  | _ :: n :: r => (numB n).bind fun v => if v = 0 then none else some (v, r)
  | _ => none) else some (0, l)
def gotsR : List Str → Option (List Nm × List Str)
  | [] => none
  | z :: r => if z = "at" then some ([], z :: r) else (nameOf z).bind fun g => (gotsR r).map fun q => (g :: q.1, q.2)
def takeGots (l : List Str) : Option (List Nm × List Str) := if l.headD "" = "got" then (match l with
  | _ :: z :: r => (nameOf z).bind fun g => (gotsR r).map fun q => (g :: q.1, q.2)
  | _ => none) else some ([], l)
def takeTime : List Str → Option (Int × List Str)
  | a :: z :: r => if a = "at" ∧ Txt.endswith z ":" = true then (numB (cutS z none (some (-1)))).map fun n => (n, r) else none
  | _ => none
def readL : List Str → Option Letter
  | h :: d :: n :: r => (numB n).bind fun v => (takePrev r).bind fun p => (takeGots p.2).bind fun g => (takeTime g.2).bind fun t => (deedOf t.2).bind fun e =>
      let l : Letter := ⟨(h, d, v), p.1, g.1, t.1, e⟩
      if letterB l = true then some l else none
  | _ => none
end K84
namespace K84
local macro_rules | `(tactic| fail "f") => `(tactic| (first | with_reducible refine fs_nx ?_ | with_reducible refine fs_ret ?_ | with_reducible refine fs_if ?_ | with_reducible refine ft_B ?_ | with_reducible refine ft_test ?_ | with_reducible refine ft_not ?_ | with_reducible refine wf_op ?_ | with_reducible refine wf_cb ?_ | with_reducible refine wf_tup ?_ | with_reducible refine fa_cons ?_ | with_reducible refine fa_nil ?_ | with_reducible refine wf_vr (by with_unfolding_all rfl) ?_ | with_reducible refine wf_in ?_ | with_reducible refine wf_st ?_ | with_reducible refine wf_b ?_ | with_reducible refine wf_nn ?_ | fail "w"))
local macro_rules | `(tactic| fail "w") => `(tactic| (first | with_reducible refine wp_neg ?_ | with_reducible refine wp_pick ?_ | with_reducible refine wp_draw ?_ | with_reducible refine ws_seq ?_ | with_reducible refine ws_nx ?_ | with_reducible refine ws_set ?_ | with_reducible refine ws_ret ?_ | with_reducible refine ws_if ?_ | with_reducible refine ws_drop ?_ | with_reducible refine wt_or ?_ | with_reducible refine wt_and ?_ | with_reducible refine wt_not ?_ | with_reducible refine wt_B ?_ | with_reducible refine wt_test ?_ | with_reducible refine wp_chain ?_ | with_reducible refine wp_andV ?_ | with_reducible refine wp_orV ?_ | with_reducible refine wp_notV ?_ | with_reducible refine wp_if ?_ | with_reducible refine wp_int ?_ | with_reducible refine wp_var (by with_unfolding_all rfl) ?_ | with_reducible refine wp_str ?_ | with_reducible refine wp_bl ?_ | with_reducible refine wp_non ?_ | with_reducible refine wp_ref ?_ | with_reducible refine wp_op ?_ | with_reducible refine wp_tup' ?_ | with_reducible refine wp_lst' ?_ | with_reducible refine wa_cons ?_ | with_reducible refine wa_nil ?_ | with_reducible refine wp_sl ?_ | with_reducible refine wo_none ?_ | with_reducible refine wo_some ?_ | with_reducible refine wp_isi' (by simp) ?_ | with_reducible refine wp_allIn (by with_unfolding_all rfl) (by assumption) (by with_unfolding_all exact of_decide_eq_true rfl) (by with_unfolding_all rfl) ?_ | with_reducible refine wp_cb ?_ | with_reducible refine wp_m1 ?_ | with_reducible refine rs_T1 ?_ | with_reducible refine rs_T' (by with_unfolding_all rfl) (by with_unfolding_all rfl) ?_ | with_reducible refine wi_list ?_ | with_reducible refine wi_tup ?_ | with_reducible refine wi_str ?_ | with_reducible refine wi_rng1 ?_ | with_reducible refine wi_rng2 ?_ | with_reducible refine wi_zipT ?_ | with_reducible refine wi_zipM ?_ | with_reducible refine wi_enum ?_ | with_reducible refine rd_ib ?_ | with_reducible refine rd_ii ?_ | with_reducible refine rd_inSg ?_ | with_reducible refine rd_mod (by first | assumption | decide) ?_ | with_reducible refine rd_mul (cmul_r (by decide +kernel)) ?_ | with_reducible refine rd_mul (cmul_l (by decide +kernel)) ?_ | with_reducible refine rc_max ?_ | with_reducible refine rc_min ?_ | with_reducible refine rd_eqI ?_ | with_reducible refine rd_neI ?_ | with_reducible refine rd_eqS (by first | assumption | decide +kernel) (by first | assumption | decide +kernel) ?_ | with_reducible refine rd_neS (by first | assumption | decide +kernel) (by first | assumption | decide +kernel) ?_ | with_reducible refine rd_iC (cpow_ok (by with_unfolding_all rfl)) ?_ | with_reducible refine rd_isN' (b := true) (by with_unfolding_all rfl) ?_ | with_reducible refine rd_isN' (b := false) (by with_unfolding_all rfl) ?_ | with_reducible refine rd_notN' (b := true) (by with_unfolding_all rfl) ?_ | with_reducible refine rd_notN' (b := false) (by with_unfolding_all rfl) ?_ | with_reducible refine rc_len (by first | assumption | with_unfolding_all rfl) ?_ | with_reducible refine rd_ixT0 ?_ | with_reducible refine rd_ixL0 ?_ | with_reducible refine rd_ixT (by first | assumption | with_unfolding_all rfl) ?_ | with_reducible refine rd_ixL (by first | assumption | with_unfolding_all rfl) ?_ | with_reducible refine wp_callF ?_ | with_reducible refine rc_tupL ?_ | with_reducible refine rc_strS ?_ | with_reducible refine rc_all ?_ | with_reducible refine L2.iteT ?_ | with_reducible refine ite_dT (by with_unfolding_all exact of_decide_eq_true rfl) ?_ | with_reducible refine ite_dF (by with_unfolding_all exact of_decide_eq_false rfl) ?_ | with_reducible refine ite_ndT (by with_unfolding_all exact of_decide_eq_true rfl) ?_ | with_reducible refine ite_ndF (by with_unfolding_all exact of_decide_eq_false rfl) ?_ | with_reducible refine L2.iteF ?_ | with_reducible refine ite_nt ?_ | with_reducible refine ite_nf ?_ | refine ⟨_, true, rfl, rfl, ?_⟩ | refine ⟨_, false, rfl, rfl, ?_⟩ | with_reducible refine ⟨_, rfl, ?_⟩ | with_reducible refine ⟨_, _, rfl, ?_⟩ | with_reducible refine And.intro (by first | assumption | exact trivial | with_unfolding_all exact of_decide_eq_true rfl) ?_ | with_reducible refine And.intro Mode.Sub.no ?_ | with_reducible refine ⟨_, (by with_unfolding_all rfl), (by with_unfolding_all exact of_decide_eq_true rfl), ?_⟩))
open PySem PySem.Spec PyProof.Rows L2
section
variable {P : Program} {w : World} {K : PySem.W.Frag} {mg : Str → Option Value} {base : Heap}
abbrev CW (K : PySem.W.Frag) : Addr := He.ga K "Words"
abbrev N_Words_init : List Str := ["self", "words"]
abbrev P_Words_init : List Str := ["self", "words"]
theorem sc_Words_init : FnScope N_Words_init P_Words_init (defScope s_Words_init) := ⟨rfl, rfl, rfl, by decide +kernel, rfl, by decide +kernel, by decide +kernel⟩
theorem ok_Words_init (W : Wd w K mg) : FnI P w K mg base 1 (He.ma K (He.ga K "Words") "__init__") (spInit (CW K)) := by
  obtain ⟨fd, D⟩ := W.fd_Words_init
  refine ⟨fd, P_Words_init, D.ok sc_Words_init (fun vs H Q E ⟨p, dx, v, e, _⟩ => by rw [e]; rfl) fun cdv A outer s H vs Q E hr hs => ⟨_, (pss_cons (ps_fld (pv 0) (pv 1) rfl)
      (pss_one (ps_fld (pv 0) pe_int rfl))), ?_⟩, D.bindsN (fun _ _ _ _ _ _ us hl => match us, hl with | [_, _], _ => rfl), D.kp⟩
  obtain ⟨p, dx, v, rfl, hp, hq⟩ := hs
  try dsimp only [cxOf, Cx.blk, Cx.blkE]
  refine ⟨v, rfl, .ref p, rfl, p, CW K, dx, [], rfl, hp, W.cls_Words, W.na_words, by decide, ?_⟩
  refine ⟨.ref p, rfl, p, CW K, dx, _, rfl, upd_same, W.cls_Words, W.na_at, by simp [putF], ?_⟩
  rw [upd_upd]
  have e : putF "at" (V.int 0) (putF "words" v []) = [(("words" : Str), v), (("at" : Str), V.int 0)] := by with_unfolding_all rfl
  rw [e]
  exact hq
abbrev N_Words_peek : List Str := ["self"]
abbrev P_Words_peek : List Str := ["self"]
theorem sc_Words_peek : FnScope N_Words_peek P_Words_peek (defScope s_Words_peek) := ⟨rfl, rfl, rfl, by decide +kernel, rfl, by decide +kernel, by decide +kernel⟩
abbrev sp_Words_peek (K : PySem.W.Frag) : Sp := spF K (CN K) (famW K (CW K)) (fun p => [.r p]) (fun _ _ => True) (fun _ c d c' => c' = c ∧ d = .str (c.rest.headD "")) (fun _ _ => False)
theorem ok_Words_peek (W : Wd w K mg) : FnI P w K mg base 1 (He.ma K (He.ga K "Words") "peek") (sp_Words_peek K) := by
  obtain ⟨fd, D⟩ := W.fd_Words_peek
  refine FnI.ofF D sc_Words_peek (fun _ _ _ _ _ _ us hl => match us, hl with | [_], _ => rfl) (fun _ => rfl) fun cdv A outer s H E hr p c _ => ⟨_, (pss_cons (ps_if (pt_cmpR op_lt (pe_fld (pv 0) rfl) (pe_callB (callK rLenD K call_lenD2) rfl W.f_len PyProof.Rows.Boot.«len» (pa_cons (pe_fld (pv 0) rfl) pa_nil)) (nomark _)) (pss_one (ps_ret (pe_ix (ixK rIxL K ix_list) (pe_fld (pv 0) rfl) (pe_fld (pv 0) rfl) (fun _ _ => rfl)))) pss_nil)
      (pss_one (ps_ret pe_str))), ?_⟩
  try dsimp only [cxOf, Cx.blk, Cx.blkE]
  refine fs_ok fun ho => ?_
  have h500 := ho.2.1
  refine fs_seq ?_
  refine fs_if (ft_test (wf_op (wf_fldA W.cls_Words W.na_at rfl (wf_cb (fa_cons (wf_fldW W.cls_Words W.na_words rfl (fa_nil ?_)))))))
  repeat fail "f"
  rw [List.length_map]
  refine b_if2 (fun h1 => ?_) (fun h1 => ?_)
  · have hlt : c.n < c.ws.length := by omega
    obtain ⟨z, hz⟩ : ∃ z, c.ws[c.n]? = some z := ⟨_, List.getElem?_eq_getElem hlt⟩
    have hd : c.rest.headD "" = z := by
      show (c.ws.drop c.n).headD "" = z
      rw [List.headD_eq_head?_getD, List.head?_drop, hz]
      rfl
    refine fs_ret (wf_op (wf_fldW W.cls_Words W.na_words rfl (wf_fldA W.cls_Words W.na_at rfl ?_)))
    refine rd_ixL (atI_map hz) ?_
    exact ⟨_, rfl, rfl, by rw [hd]⟩
  · have hge : c.ws.length ≤ c.n := by omega
    repeat fail "f"
    refine ⟨rfl, ?_⟩
    show _ = PyData.str ((c.ws.drop c.n).headD "")
    rw [List.drop_eq_nil_of_le hge]
    rfl
theorem rest_cases (l : List Str) : l = [] ∨ ∃ z r, l = z :: r := match l with
  | [] => .inl rfl
  | z :: r => .inr ⟨z, r, rfl⟩
theorem hd_ok {c : WSt} (ho : c.Ok) : okS (c.rest.headD "") = true := by
  rcases rest_cases c.rest with e | ⟨z, r, e⟩
  · rw [e]
    decide +kernel
  · have := (ho.mem (z := z) (by rw [e]; exact List.mem_cons_self)).1.ok
    rw [e]
    exact this
abbrev N_Words_take : List Str := ["self", "word"]
abbrev P_Words_take : List Str := ["self"]
theorem sc_Words_take : FnScope N_Words_take P_Words_take (defScope s_Words_take) := ⟨rfl, rfl, rfl, by decide +kernel, rfl, by decide +kernel, by decide +kernel⟩
abbrev sp_Words_take (K : PySem.W.Frag) : Sp := spF K (CN K) (famW K (CW K)) (fun p => [.r p]) (fun _ _ => True) (fun _ c d c' => ∃ z r, c.rest = z :: r ∧ d = .str z ∧ c' = c.next) (fun _ c => c.rest = [])
theorem ok_Words_take (W : Wd w K mg) : FnI P w K mg base 3 (He.ma K (He.ga K "Words") "take") (sp_Words_take K) := by
  obtain ⟨fd, D⟩ := W.fd_Words_take
  refine FnI.ofF D sc_Words_take (fun _ _ _ _ _ _ us hl => match us, hl with | [_], _ => rfl) (fun _ => rfl) fun cdv A outer s H E hr p c _ => ⟨_, (pss_cons (ps_set (i := 1) sc_Words_take.nd rfl (Or.inl rfl) (pe_methI (pv 0) W.cls_Words W.m_peek (ok_Words_peek W) hr passL))
      (pss_cons (ps_if (pt_cmpR (opK rEqD K (op_eqD hr.units)) (pv 1) pe_str (nomark _)) (pss_one (ps_raise rfl (takes_of rfl rfl rfl rfl) (pmk_NL W hr))) pss_nil)
      (pss_cons (ps_fldaug (pv 0) pe_int in_add)
      (pss_one (ps_ret (pv 1)))))), ?_⟩
  try dsimp only [cxOf, Cx.blk, Cx.blkE]
  refine fs_ok fun ho => ?_
  refine fs_seq (fs_set (wf_meth (.inr fun _ _ z => z) (by decide +kernel) rfl trivial (fun d c' hd => ?_) fun z => z.elim))
  obtain ⟨rfl, rfl⟩ := hd
  have hh := hd_ok ho
  refine fs_seq (fs_if ?_)
  repeat fail "f"
  refine b_if2 (fun h1 => ?_) (fun h1 => ?_)
  · refine fs_lift0 (ws_raise W.rc1 ?_)
    show c'.rest = []
    rcases rest_cases c'.rest with e | ⟨z, r, e⟩
    · exact e
    · rw [e] at h1
      exact absurd h1 (ho.mem (z := z) (by rw [e]; exact List.mem_cons_self)).2
  · rcases rest_cases c'.rest with e | ⟨z, r, e⟩
    · rw [e] at h1
      exact absurd rfl h1
    · repeat fail "f"
      refine fs_seq (fs_augA W.cls_Words W.na_at rfl (ho.next e) ?_)
      repeat fail "f"
      exact ⟨z, r, e, by rw [e]; rfl, rfl⟩
abbrev N_Words_take_prev : List Str := ["self", "number"]
abbrev P_Words_take_prev : List Str := ["self"]
theorem sc_Words_take_prev : FnScope N_Words_take_prev P_Words_take_prev (defScope s_Words_take_prev) := ⟨rfl, rfl, rfl, by decide +kernel, rfl, by decide +kernel, by decide +kernel⟩
abbrev sp_Words_take_prev (K : PySem.W.Frag) : Sp := spF K (CN K) (famW K (CW K)) (fun p => [.r p]) (fun _ _ => True) (fun _ c d c' => ∃ q, takePrev c.rest = some q ∧ d = .int q.1 ∧ c'.rest = q.2) (fun _ c => takePrev c.rest = none)
theorem ok_Words_take_prev (W : Wd w K mg) : FnI P w K mg base 4 (He.ma K (He.ga K "Words") "take_prev") (sp_Words_take_prev K) := by
  obtain ⟨fd, D⟩ := W.fd_Words_take_prev
  refine FnI.ofF D sc_Words_take_prev (fun _ _ _ _ _ _ us hl => match us, hl with | [_], _ => rfl) (fun _ => rfl) fun cdv A outer s H E hr p c _ => ⟨_, (pss_cons (ps_if (pt_cmpR (opK rNeD K (op_neD hr.units)) (pe_methI (pv 0) W.cls_Words W.m_peek (ok_Words_peek W) hr passL) pe_str (nomark _)) (pss_one (ps_ret pe_int)) pss_nil)
      (pss_cons (ps_expr (pe_methI (pv 0) W.cls_Words W.m_take (ok_Words_take W) hr (passes_call (takes_of rfl rfl rfl rfl) (fun _ _ _ _ h => h))))
      (pss_cons (ps_set (i := 1) sc_Words_take_prev.nd rfl (Or.inl rfl) (pe_callI (ok_number_of W) hr W.g_number_of (passes_call (takes_of rfl rfl rfl rfl) (fun _ _ _ _ h => h)) (pa_cons (pe_methI (pv 0) W.cls_Words W.m_take (ok_Words_take W) hr (passes_call (takes_of rfl rfl rfl rfl) (fun _ _ _ _ h => h))) pa_nil)))
      (pss_cons (ps_if (pt_cmpR (opK rEqD K (op_eqD hr.units)) (pv 1) pe_int (nomark _)) (pss_one (ps_raise rfl (takes_of rfl rfl rfl rfl) (pmk_NL W hr))) pss_nil)
      (pss_one (ps_ret (pv 1))))))), ?_⟩
  try dsimp only [cxOf, Cx.blk, Cx.blkE]
  refine fs_ok fun ho => ?_
  refine fs_seq (fs_if (ft_test (wf_op (wf_meth (.inr fun _ _ z => z) (by decide +kernel) rfl trivial (fun d c' hd => ?_) fun z => z.elim))))
  obtain ⟨rfl, rfl⟩ := hd
  have hh := hd_ok ho
  repeat fail "f"
  refine b_ifn (fun h1 => ?_) (fun h1 => ?_)
  · rcases rest_cases c'.rest with hrest | ⟨z, r, hrest⟩
    · rw [hrest] at h1
      exact absurd h1 (by decide +kernel)
    · repeat fail "f"
      refine fs_seq (fs_drop (wf_meth (.inl rfl) (by decide +kernel) rfl trivial (fun d c2 hd => ?_) (fun hx => by rw [hrest] at hx; cases hx)))
      obtain ⟨z', r', e1, rfl, rfl⟩ := hd
      have e2 := WSt.rest_next e1
      rw [hrest] at e1
      obtain ⟨rfl, rfl⟩ := List.cons.inj e1
      refine fs_seq (fs_set (wf_call (.inl rfl) (fa_cons (wf_meth (.inl rfl) (by decide +kernel) rfl trivial (fun d c3 hd => ?_) (fun hx => ?_)))))
      · obtain ⟨n, r2, e3, rfl, rfl⟩ := hd
        have e4 := WSt.rest_next e3
        rw [e2] at e3
        subst e3
        have hn := ho.mem (z := n) (by rw [hrest]; simp)
        have ht : takePrev c'.rest = (numB n).bind fun v => if v = 0 then none else some (v, r2) := by
          rw [hrest] at h1 ⊢
          exact if_pos h1
        repeat fail "f"
        refine ⟨hn.1, .no, fun y hy => ?_, fun hx => ?_⟩
        · obtain ⟨v, hv, rfl⟩ := hy
          rw [hv] at ht
          refine fs_seq (fs_if ?_)
          repeat fail "f"
          refine b_if2 (fun h2 => ?_) (fun h2 => ?_)
          · refine fs_lift0 (ws_raise W.rc1 ?_)
            show takePrev c'.rest = none
            rw [ht]
            exact if_pos h2
          · repeat fail "f"
            refine ⟨(v, r2), ?_, rfl, e4⟩
            rw [ht]
            exact if_neg h2
        · show takePrev c'.rest = none
          rw [ht, hx]
          rfl
      · rw [e2] at hx
        show takePrev c'.rest = none
        rw [hrest] at h1 ⊢
        subst hx
        exact if_pos h1
  · repeat fail "f"
    exact ⟨(0, c'.rest), if_neg h1, rfl, rfl⟩
theorem nameOf_ok {z : Str} {p : Nm} (hz : Sm z) (h : nameOf z = some p) : NmOk p := by
  have hm : ∀ y ∈ Txt.split z ".", Sm y := fun y hy => split_Sm dot_tl (by decide) hz hy
  unfold nameOf at h
  split at h
  · rename_i a b c e
    rw [e] at hm
    cases hn : numB c with
    | none =>
      rw [hn] at h
      cases h
    | some n =>
      rw [hn] at h
      cases h
      exact ⟨hm a (by simp), hm b (by simp)⟩
  · cases h
abbrev N_Words_take_gots : List Str := ["self", "found"]
abbrev P_Words_take_gots : List Str := ["self"]
theorem sc_Words_take_gots : FnScope N_Words_take_gots P_Words_take_gots (defScope s_Words_take_gots) := ⟨rfl, rfl, rfl, by decide +kernel, rfl, by decide +kernel, by decide +kernel⟩
abbrev sp_Words_take_gots (K : PySem.W.Frag) : Sp := spF K (CN K) (famW K (CW K)) (fun p => [.r p]) (fun _ _ => True) (fun _ c d c' => ∃ q, takeGots c.rest = some q ∧ d = .tuple (q.1.map nameD) ∧ c'.rest = q.2) (fun _ c => takeGots c.rest = none)
theorem ok_Words_take_gots (W : Wd w K mg) : FnI P w K mg base 5 (He.ma K (He.ga K "Words") "take_gots") (sp_Words_take_gots K) := by
  obtain ⟨fd, D⟩ := W.fd_Words_take_gots
  refine FnI.ofF D sc_Words_take_gots (fun _ _ _ _ _ _ us hl => match us, hl with | [_], _ => rfl) (fun _ => rfl) fun cdv A outer s H E hr p c _ => ⟨_, (pss_cons (ps_if (pt_cmpR (opK rNeD K (op_neD hr.units)) (pe_methI (pv 0) W.cls_Words W.m_peek (ok_Words_peek W) hr passL) pe_str (nomark _)) (pss_one (ps_ret (pe_tup pa_nil))) pss_nil)
      (pss_cons (ps_expr (pe_methI (pv 0) W.cls_Words W.m_take (ok_Words_take W) hr (passes_call (takes_of rfl rfl rfl rfl) (fun _ _ _ _ h => h))))
      (pss_cons (ps_set (i := 1) sc_Words_take_gots.nd rfl (Or.inl rfl) (pe_lst (pa_cons (pe_callI (ok_name_of_text W) hr W.g_name_of_text (passes_call (takes_of rfl rfl rfl rfl) (fun _ _ _ _ h => h)) (pa_cons (pe_methI (pv 0) W.cls_Words W.m_take (ok_Words_take W) hr (passes_call (takes_of rfl rfl rfl rfl) (fun _ _ _ _ h => h))) pa_nil)) pa_nil)))
      (pss_cons (ps_while (passes_of rfl) (pt_cmpR (opK rNeD K (op_neD hr.units)) (pe_methI (pv 0) W.cls_Words W.m_peek (ok_Words_peek W) hr passL) pe_str (nomark _)) (pss_one (ps_expr (pe_bmK K PySem.F.plainAttrs_list PySem.F.slot_list_append PySem.F.type_list_append mt_appendR (pv 1) (pa_cons (pe_callI (ok_name_of_text W) hr W.g_name_of_text (passes_call (takes_of rfl rfl rfl rfl) (fun _ _ _ _ h => h)) (pa_cons (pe_methI (pv 0) W.cls_Words W.m_take (ok_Words_take W) hr (passes_call (takes_of rfl rfl rfl rfl) (fun _ _ _ _ h => h))) pa_nil)) pa_nil)))))
      (pss_one (ps_ret (pe_callTy (callK rTupL K call_tupL) rfl W.f_tuple PyProof.Rows.Boot.«tuple» (pa_cons (pv 1) pa_nil)))))))), ?_⟩
  try dsimp only [cxOf, Cx.blk, Cx.blkE]
  refine fs_ok fun ho => ?_
  refine fs_seq (fs_if (ft_test (wf_op (wf_meth (.inr fun _ _ z => z) (by decide +kernel) rfl trivial (fun d c' hd => ?_) fun z => z.elim))))
  obtain ⟨rfl, rfl⟩ := hd
  have hh := hd_ok ho
  repeat fail "f"
  refine b_ifn (fun h1 => ?_) (fun h1 => ?_)
  · rcases rest_cases c'.rest with hrest | ⟨z, r, hrest⟩
    · rw [hrest] at h1
      exact absurd h1 (by decide +kernel)
    · repeat fail "f"
      refine fs_seq (fs_drop (wf_meth (.inl rfl) (by decide +kernel) rfl trivial (fun d c2 hd => ?_) (fun hx => by rw [hrest] at hx; cases hx)))
      obtain ⟨z', r', e1, rfl, rfl⟩ := hd
      have ho2 := ho.next e1
      have e2 := WSt.rest_next e1
      rw [hrest] at e1
      obtain ⟨rfl, rfl⟩ := List.cons.inj e1
      refine fs_new (N := cnD K) ownDD (fr_lstD rfl (fa_cons (wf_call (.inl rfl) (fa_cons (wf_meth (.inl rfl) (by decide +kernel) rfl trivial (fun d c3 hd => ?_) (fun hx => ?_))))))
      · obtain ⟨n, r2, e3, rfl, rfl⟩ := hd
        have ho3 := ho2.next e3
        have e4 := WSt.rest_next e3
        rw [e2] at e3
        subst e3
        have hn := ho.mem (z := n) (by rw [hrest]; simp)
        have ht : takeGots c'.rest = (nameOf n).bind fun g => (gotsR r2).map fun q => (g :: q.1, q.2) := by
          rw [hrest] at h1 ⊢
          exact if_pos h1
        repeat fail "f"
        refine ⟨hn.1, .no, fun y hy => ?_, fun hx => ?_⟩
        · obtain ⟨g, hg, rfl⟩ := hy
          rw [hg] at ht
          repeat fail "f"
          intro q hq
          have key : takeGots c'.rest = (gotsR c'.next.next.rest).map fun q => ([g] ++ q.1, q.2) := by
            rw [ht, e4]
            rfl
          generalize hc3 : c'.next.next = c3 at *
          refine fs_seq (fs_while (fun s1 s => s1 = _ ∧ s.1.Ok ∧ ∃ gs : List Nm, s.2 = gs.map nameD ∧ gs.length + s.1.rest.length ≤ 500 ∧ takeGots c'.rest = (gotsR s.1.rest).map fun q => (gs ++ q.1, q.2)) (fun s => s.1.rest.length) ⟨rfl, ho3, [g], rfl, ?_, key⟩ ?_)
          · have h5 : c'.rest.length ≤ 500 := by
              show (c'.ws.drop c'.n).length ≤ 500
              rw [List.length_drop]
              have := ho.2.1
              omega
            rw [hrest] at h5
            rw [e4]
            simp at h5 ⊢
            omega
          · rintro s1 ⟨c4, xs⟩ ⟨rfl, ho4, gs, hxs, hlen, hkey⟩
            have hxs' : xs = gs.map nameD := hxs
            subst hxs'
            have ho4' : c4.Ok := ho4
            have hlen' : gs.length + c4.rest.length ≤ 500 := hlen
            have hkey' : takeGots c'.rest = (gotsR c4.rest).map fun q => (gs ++ q.1, q.2) := hkey
            refine ft_test (wf_op (wf_sub (FSub.cell hq) (wf_meth (.inr fun _ _ z => z) (by decide +kernel) rfl trivial (fun d c5 hd => ?_) fun z => z.elim)))
            obtain ⟨rfl, rfl⟩ := hd
            have hh4 := hd_ok ho4'
            repeat fail "f"
            refine b_ifn (fun h2 => ?_) (fun h2 => ?_)
            · refine fs_ret (wf_tupOwn ownDD rfl ?_)
              refine .inr ⟨_, rfl, (gs, c5.rest), ?_, rfl, rfl⟩
              rcases rest_cases c5.rest with e | ⟨z, r, e⟩
              · rw [e] at h2
                exact absurd h2 (by decide +kernel)
              · have ez : z = "at" := by
                  rw [e] at h2
                  exact h2
                rw [hkey', e, gotsR, if_pos ez]
                simp
            · refine fs_bm hq rfl (fa_cons (wf_call (.inl rfl) (fa_cons (wf_meth (.inl rfl) (by decide +kernel) rfl trivial (fun d c6 hd => ?_) (fun hx => ?_)))))
              · obtain ⟨z, r6, e6, rfl, rfl⟩ := hd
                have hz := ho4'.mem (z := z) (by rw [e6]; exact List.mem_cons_self)
                have h2' : ¬ z = "at" := by
                  rw [e6] at h2
                  exact h2
                have e7 := WSt.rest_next e6
                have hk2 : takeGots c'.rest = ((nameOf z).bind fun g => (gotsR r6).map fun q => (g :: q.1, q.2)).map fun q => (gs ++ q.1, q.2) := by
                  rw [hkey', e6, gotsR, if_neg h2']
                repeat fail "f"
                refine ⟨hz.1, .no, fun y hy => ?_, fun hx => ?_⟩
                · obtain ⟨g', hg', rfl⟩ := hy
                  rw [hg'] at hk2
                  repeat fail "f"
                  have hl6 : c5.rest.length = r6.length + 1 := by rw [e6]; rfl
                  refine ⟨_, ch_appD (by rw [List.length_map]; omega), ⟨rfl, ho4'.next e6, gs ++ [g'], by show _ = _; rw [List.map_append]; rfl, ?_, ?_⟩, ?_⟩
                  · show (gs ++ [g']).length + c5.next.rest.length ≤ 500
                    rw [e7, List.length_append]
                    simp
                    omega
                  · show takeGots c'.rest = (gotsR c5.next.rest).map _
                    rw [hk2, e7]
                    cases gotsR r6 with
                    | none => rfl
                    | some q => simp
                  · show c5.next.rest.length < c5.rest.length
                    rw [e7, hl6]
                    omega
                · show takeGots c'.rest = none
                  rw [hk2, hx]
                  rfl
              · show takeGots c'.rest = none
                have hx' : c5.rest = [] := hx
                rw [hkey', hx']
                rfl
        · show takeGots c'.rest = none
          rw [ht, hx]
          rfl
      · rw [e2] at hx
        show takeGots c'.rest = none
        rw [hrest] at h1 ⊢
        subst hx
        exact if_pos h1
  · repeat fail "f"
    exact ⟨([], c'.rest), if_neg h1, rfl, rfl⟩
end
end K84

/-! part K84D3 -/
set_option maxHeartbeats 1000000
/-! K84D3: the validators of letters. -/
namespace K84
local macro_rules | `(tactic| fail "w") => `(tactic| (first | with_reducible refine wp_neg ?_ | with_reducible refine wp_pick ?_ | with_reducible refine wp_draw ?_ | with_reducible refine ws_seq ?_ | with_reducible refine ws_nx ?_ | with_reducible refine ws_set ?_ | with_reducible refine ws_ret ?_ | with_reducible refine ws_if ?_ | with_reducible refine ws_drop ?_ | with_reducible refine wt_or ?_ | with_reducible refine wt_and ?_ | with_reducible refine wt_not ?_ | with_reducible refine wt_B ?_ | with_reducible refine wt_test ?_ | with_reducible refine wp_chain ?_ | with_reducible refine wp_andV ?_ | with_reducible refine wp_orV ?_ | with_reducible refine wp_notV ?_ | with_reducible refine wp_if ?_ | with_reducible refine wp_int ?_ | with_reducible refine wp_var (by with_unfolding_all rfl) ?_ | with_reducible refine wp_str ?_ | with_reducible refine wp_bl ?_ | with_reducible refine wp_non ?_ | with_reducible refine wp_ref ?_ | with_reducible refine wp_op ?_ | with_reducible refine wp_tup' ?_ | with_reducible refine wp_lst' ?_ | with_reducible refine wa_cons ?_ | with_reducible refine wa_nil ?_ | with_reducible refine wp_sl ?_ | with_reducible refine wo_none ?_ | with_reducible refine wo_some ?_ | with_reducible refine wp_isi' (by simp) ?_ | with_reducible refine wp_allIn (by with_unfolding_all rfl) (by assumption) (by with_unfolding_all exact of_decide_eq_true rfl) (by with_unfolding_all rfl) ?_ | with_reducible refine wp_cb ?_ | with_reducible refine wp_m1 ?_ | with_reducible refine rs_T1 ?_ | with_reducible refine rs_T' (by with_unfolding_all rfl) (by with_unfolding_all rfl) ?_ | with_reducible refine wi_list ?_ | with_reducible refine wi_tup ?_ | with_reducible refine wi_str ?_ | with_reducible refine wi_rng1 ?_ | with_reducible refine wi_rng2 ?_ | with_reducible refine wi_zipT ?_ | with_reducible refine wi_zipM ?_ | with_reducible refine wi_enum ?_ | with_reducible refine rd_ib ?_ | with_reducible refine rd_ii ?_ | with_reducible refine rd_inSg ?_ | with_reducible refine rd_mod (by first | assumption | decide) ?_ | with_reducible refine rd_mul (cmul_r (by decide +kernel)) ?_ | with_reducible refine rd_mul (cmul_l (by decide +kernel)) ?_ | with_reducible refine rc_max ?_ | with_reducible refine rc_min ?_ | with_reducible refine rd_eqI ?_ | with_reducible refine rd_neI ?_ | with_reducible refine rd_eqS (by first | assumption | decide +kernel) (by first | assumption | decide +kernel) ?_ | with_reducible refine rd_neS (by first | assumption | decide +kernel) (by first | assumption | decide +kernel) ?_ | with_reducible refine rd_iC (cpow_ok (by with_unfolding_all rfl)) ?_ | with_reducible refine rd_isN' (b := true) (by with_unfolding_all rfl) ?_ | with_reducible refine rd_isN' (b := false) (by with_unfolding_all rfl) ?_ | with_reducible refine rd_notN' (b := true) (by with_unfolding_all rfl) ?_ | with_reducible refine rd_notN' (b := false) (by with_unfolding_all rfl) ?_ | with_reducible refine rc_len (by first | assumption | with_unfolding_all rfl) ?_ | with_reducible refine rd_ixT0 ?_ | with_reducible refine rd_ixL0 ?_ | with_reducible refine rd_ixT (by first | assumption | with_unfolding_all rfl) ?_ | with_reducible refine rd_ixL (by first | assumption | with_unfolding_all rfl) ?_ | with_reducible refine wp_callF ?_ | with_reducible refine rc_tupL ?_ | with_reducible refine rc_strS ?_ | with_reducible refine rc_all ?_ | with_reducible refine L2.iteT ?_ | with_reducible refine ite_dT (by with_unfolding_all exact of_decide_eq_true rfl) ?_ | with_reducible refine ite_dF (by with_unfolding_all exact of_decide_eq_false rfl) ?_ | with_reducible refine ite_ndT (by with_unfolding_all exact of_decide_eq_true rfl) ?_ | with_reducible refine ite_ndF (by with_unfolding_all exact of_decide_eq_false rfl) ?_ | with_reducible refine L2.iteF ?_ | with_reducible refine ite_nt ?_ | with_reducible refine ite_nf ?_ | refine ⟨_, true, rfl, rfl, ?_⟩ | refine ⟨_, false, rfl, rfl, ?_⟩ | with_reducible refine ⟨_, rfl, ?_⟩ | with_reducible refine ⟨_, _, rfl, ?_⟩ | with_reducible refine And.intro (by first | assumption | exact trivial | with_unfolding_all exact of_decide_eq_true rfl) ?_ | with_reducible refine And.intro Mode.Sub.no ?_ | with_reducible refine ⟨_, (by with_unfolding_all rfl), (by with_unfolding_all exact of_decide_eq_true rfl), ?_⟩))
open PySem PySem.Spec PyProof.Rows L2
section
variable {P : Program} {w : World} {K : PySem.W.Frag} {mg : Str → Option Value} {base : Heap}
abbrev N_are_gots : List Str := ["thing", "house", "deal", "name", "k"]
abbrev P_are_gots : List Str := ["thing", "house", "deal"]
theorem sc_are_gots : FnScope N_are_gots P_are_gots (defScope s_are_gots) := ⟨rfl, rfl, rfl, by decide +kernel, rfl, by decide +kernel, by decide +kernel⟩
abbrev sp_are_gots (K : PySem.W.Frag) : Sp := spD K (CN K) (fun _ => Mode.no) (fun p : List Nm × Str × Str => [.d (.tuple (p.1.map nameD)), .d (.str p.2.1), .d (.str p.2.2)]) (fun p => (∀ g ∈ p.1, NmOk g) ∧ p.1.length ≤ 1000 ∧ okS p.2.1 = true ∧ okS p.2.2 = true) (fun p y => y = .bool (gotsB p.1 p.2.1 p.2.2)) (fun _ => False)
theorem ok_are_gots (W : Wd w K mg) : FnI P w K mg base 3 (He.ga K "are_gots") (sp_are_gots K) := by
  obtain ⟨fd, F⟩ := W.fd_are_gots
  refine FnI.of F sc_are_gots (fun _ _ _ _ _ _ us hl => match us, hl with | [_, _, _], _ => rfl) (fun _ _ => rfl) fun cdv A outer s H E hr ⟨gs, h, d⟩ ⟨hg, hlen, hh, hd⟩ => ⟨_, (pss_cons (ps_if (PW.pt (pw_or (pt_not (pt_val (pe_callB (callK rIsi K call_isi) rfl W.f_isinstance PyProof.Rows.Boot.«isinstance» (pa_cons (pv 0) (pa_cons (pe_bltn (v := .ty "tuple") rfl W.f_tuple PyProof.Rows.Boot.«tuple» rfl) pa_nil))))) (pw_or (pt_cmpR op_gt (pe_callB (callK rLenD K call_lenD2) rfl W.f_len PyProof.Rows.Boot.«len» (pa_cons (pv 0) pa_nil)) (pe_gi W.i_MOST_GOTS) (nomark _)) (pw_or1 (pt_not (pt_val (pe_callB (callK rAll K (cr_all rfl)) rfl W.f_all PyProof.Rows.Boot.«all» (pa_cons (pe_lc (own := [("name", 3)]) (g := gName 3) (tt := tYes) rfl sc_are_gots.nd (pi_tup (pv 0)) (blkOk_by (own := [("name", 3)]) (N := N_are_gots) (sc := defScope s_are_gots) (by decide +kernel)) (fun _ _ _ _ _ => (pg_name (i := 3) sc_are_gots.nd rfl (Or.inl rfl))) (fun _ _ _ _ _ => pts_nil) (fun _ _ _ _ _ => (pe_callI (ok_is_name_letters W) hr W.g_is_name_letters passL (pa_cons (pv 3) pa_nil)))) pa_nil)))))))) (pss_one (ps_ret pe_bl)) pss_nil)
      (pss_cons (ps_if (pt_not (pt_val (pe_callB (callK rAll K (cr_all rfl)) rfl W.f_all PyProof.Rows.Boot.«all» (pa_cons (pe_lc (own := [("name", 3)]) (g := gName 3) (tt := tYes) rfl sc_are_gots.nd (pi_tup (pv 0)) (blkOk_by (own := [("name", 3)]) (N := N_are_gots) (sc := defScope s_are_gots) (by decide +kernel)) (fun _ _ _ _ _ => (pg_name (i := 3) sc_are_gots.nd rfl (Or.inl rfl))) (fun _ _ _ _ _ => pts_nil) (fun _ _ _ _ _ => (pe_cmpR (opK rNeD K (op_neD hr.units)) (pe_slice (slK rSlT K sl_tup) (pv 3) po_none (po_some pe_int)) (pe_tup (pa_cons (pv 1) (pa_cons (pv 2) pa_nil))) (nomark _)))) pa_nil)))) (pss_one (ps_ret pe_bl)) pss_nil)
      (pss_one (ps_ret (pe_callB (callK rAll K (cr_all rfl)) rfl W.f_all PyProof.Rows.Boot.«all» (pa_cons (pe_lc (own := [("k", 4)]) (g := gName 4) (tt := tYes) rfl sc_are_gots.nd (pi_range2 rfl W.f_range (pa_cons pe_int (pa_cons (pe_callB (callK rLenD K call_lenD2) rfl W.f_len PyProof.Rows.Boot.«len» (pa_cons (pv 0) pa_nil)) pa_nil))) (blkOk_by (own := [("k", 4)]) (N := N_are_gots) (sc := defScope s_are_gots) (by decide +kernel)) (fun _ _ _ _ _ => (pg_name (i := 4) sc_are_gots.nd rfl (Or.inl rfl))) (fun _ _ _ _ _ => pts_nil) (fun _ _ _ _ _ => (pe_cmpR (opK rLtD K (op_ltD hr.units)) (pe_ix (ixK rIxT K ix_tup) (pv 0) (pe_op op_sub (pv 4) pe_int) (fun _ _ => rfl)) (pe_ix (ixK rIxT K ix_tup) (pv 0) (pv 4) (fun _ _ => rfl)) (nomark _)))) pa_nil)))))), ?_⟩
  have hg : ∀ g ∈ gs, NmOk g := hg
  have hlen : gs.length ≤ 1000 := hlen
  have hgl : (gs.map nameD).length = gs.length := List.length_map ..
  try dsimp only [cxOf, Cx.blk, Cx.blkE]
  repeat fail "w"
  refine b_if2 (fun h1 => ?_) (fun h1 => ?_)
  · repeat fail "w"
    have h1' : ¬ gs.length ≤ 30 := by rw [hgl] at h1; omega
    simp [gotsB, h1']
  · have h1' : gs.length ≤ 30 := by rw [hgl] at h1; omega
    repeat fail "w"
    refine wp_lcG nameD (fun g => .bool (nameB g)) nameD_inj ?_
    repeat fail "w"
    refine ⟨gs, by rw [List.map_map]; rfl, by omega, fun g hgm => ⟨_, tgt_name (by decide), ?_⟩, ?_⟩
    · have hok := hg g hgm
      repeat fail "w"
      rfl
    · repeat fail "w"
      have e : gs.map (fun g => PyData.bool (nameB g)) = (gs.map nameB).map PyData.bool := by rw [List.map_map]; rfl
      rw [e]
      repeat fail "w"
      refine b_ifnb (fun h2 => ?_) (fun h2 => ?_)
      · have h2' : gs.all nameB = true := by rw [List.all_map] at h2; exact h2
        repeat fail "w"
        refine wp_lcG nameD (fun g => .bool (!decide ([g.1, g.2.1] = [h, d]))) nameD_inj ?_
        repeat fail "w"
        refine ⟨gs, by rw [List.map_map]; rfl, by omega, fun g hgm => ⟨_, tgt_name (by decide), ?_⟩, ?_⟩
        · have hok := hg g hgm
          have k1 : ∀ z ∈ [g.1, g.2.1], okS z = true := fun z hz => by
            simp at hz
            rcases hz with rfl | rfl
            · exact hok.1.ok
            · exact hok.2.ok
          have k2 : ∀ z ∈ [h, d], okS z = true := fun z hz => by
            simp at hz
            rcases hz with rfl | rfl
            · exact hh
            · exact hd
          repeat fail "w"
          refine rd_neTW [g.1, g.2.1] [h, d] (by with_unfolding_all rfl) rfl k1 k2 ?_
          rfl
        · repeat fail "w"
          have e : gs.map (fun g => PyData.bool (!decide ([g.1, g.2.1] = [h, d]))) = (gs.map fun g => !decide ([g.1, g.2.1] = [h, d])).map PyData.bool := by rw [List.map_map]; rfl
          rw [e]
          repeat fail "w"
          refine b_ifnb (fun h3 => ?_) (fun h3 => ?_)
          · have h3' : (gs.all fun g => !decide ([g.1, g.2.1] = [h, d])) = true := by rw [List.all_map] at h3; exact h3
            repeat fail "w"
            refine wp_lcG (fun i : Nat => .int (1 + (i : Int))) (fun i => .bool (ltN (gs.getD i ("", "", 0)) (gs.getD (i + 1) ("", "", 0)))) (fun a b e => by have := PyData.int.inj e; omega) ?_
            iterate 10 fail "w"
            refine ⟨1, ((gs.map nameD).length : Int), rfl, by rw [hgl]; omega, ?_⟩
            have en : (((gs.map nameD).length : Int) - 1).toNat = gs.length - 1 := by rw [hgl]; omega
            rw [en]
            refine ⟨List.range (gs.length - 1), by unfold rangeD; rw [List.map_map]; rfl, by rw [List.length_range]; omega, fun i hi => ⟨_, tgt_name (by decide), ?_⟩, ?_⟩
            · have hi' : i + 1 < gs.length := by have := List.mem_range.mp hi; omega
              have ea : gs[i]? = some (gs.getD i ("", "", 0)) := by rw [List.getD_eq_getElem?_getD, List.getElem?_eq_getElem (by omega)]; rfl
              have eb : gs[i + 1]? = some (gs.getD (i + 1) ("", "", 0)) := by rw [List.getD_eq_getElem?_getD, List.getElem?_eq_getElem hi']; rfl
              repeat fail "w"
              have e1 : (1 + (i : Int)) - 1 = ((i : Nat) : Int) := by omega
              rw [e1]
              refine rd_ixT (atI_map ea) ?_
              repeat fail "w"
              have e2 : (1 + (i : Int)) = ((i + 1 : Nat) : Int) := by omega
              rw [e2]
              refine rd_ixT (atI_map eb) ?_
              repeat fail "w"
              refine rd_lt rfl (fun z => nomatch z) (by show 1 ≤ 64; decide) ?_
              rfl
            · repeat fail "w"
              have e : (List.range (gs.length - 1)).map (fun i => PyData.bool (ltN (gs.getD i ("", "", 0)) (gs.getD (i + 1) ("", "", 0)))) = ((List.range (gs.length - 1)).map fun i => ltN (gs.getD i ("", "", 0)) (gs.getD (i + 1) ("", "", 0))).map PyData.bool := by rw [List.map_map]; rfl
              rw [e]
              repeat fail "w"
              have h4 := adj_range gs
              rw [List.all_map]
              show PyData.bool ((List.range (gs.length - 1)).all fun i => ltN (gs.getD i ("", "", 0)) (gs.getD (i + 1) ("", "", 0))) = _
              rw [h4]
              show PyData.bool (adjB gs) = .bool (gotsB gs h d)
              unfold gotsB
              rw [h2', h3', decide_eq_true h1']
              rfl
          · have h3' : (gs.all fun g => !decide ([g.1, g.2.1] = [h, d])) = false := by rw [List.all_map] at h3; exact h3
            repeat fail "w"
            show PyData.bool false = .bool (gotsB gs h d)
            unfold gotsB
            rw [h2', h3']
            simp
      · have h2' : gs.all nameB = false := by rw [List.all_map] at h2; exact h2
        repeat fail "w"
        show PyData.bool false = .bool (gotsB gs h d)
        unfold gotsB
        rw [h2']
        simp
end
end K84

/-! part K84D4 -/
set_option maxHeartbeats 1000000
/-! K84D4: is_deed, is_letter. -/
namespace K84
local macro_rules | `(tactic| fail "w") => `(tactic| (first | with_reducible refine wp_neg ?_ | with_reducible refine wp_pick ?_ | with_reducible refine wp_draw ?_ | with_reducible refine ws_seq ?_ | with_reducible refine ws_nx ?_ | with_reducible refine ws_set ?_ | with_reducible refine ws_ret ?_ | with_reducible refine ws_if ?_ | with_reducible refine ws_drop ?_ | with_reducible refine wt_or ?_ | with_reducible refine wt_and ?_ | with_reducible refine wt_not ?_ | with_reducible refine wt_B ?_ | with_reducible refine wt_test ?_ | with_reducible refine wp_chain ?_ | with_reducible refine wp_andV ?_ | with_reducible refine wp_orV ?_ | with_reducible refine wp_notV ?_ | with_reducible refine wp_if ?_ | with_reducible refine wp_int ?_ | with_reducible refine wp_var (by with_unfolding_all rfl) ?_ | with_reducible refine wp_str ?_ | with_reducible refine wp_bl ?_ | with_reducible refine wp_non ?_ | with_reducible refine wp_ref ?_ | with_reducible refine wp_op ?_ | with_reducible refine wp_tup' ?_ | with_reducible refine wp_lst' ?_ | with_reducible refine wa_cons ?_ | with_reducible refine wa_nil ?_ | with_reducible refine wp_sl ?_ | with_reducible refine wo_none ?_ | with_reducible refine wo_some ?_ | with_reducible refine wp_isi' (by simp) ?_ | with_reducible refine wp_allIn (by with_unfolding_all rfl) (by assumption) (by with_unfolding_all exact of_decide_eq_true rfl) (by with_unfolding_all rfl) ?_ | with_reducible refine wp_cb ?_ | with_reducible refine wp_m1 ?_ | with_reducible refine rs_T1 ?_ | with_reducible refine rs_T' (by with_unfolding_all rfl) (by with_unfolding_all rfl) ?_ | with_reducible refine wi_list ?_ | with_reducible refine wi_tup ?_ | with_reducible refine wi_str ?_ | with_reducible refine wi_rng1 ?_ | with_reducible refine wi_rng2 ?_ | with_reducible refine wi_zipT ?_ | with_reducible refine wi_zipM ?_ | with_reducible refine wi_enum ?_ | with_reducible refine rd_ib ?_ | with_reducible refine rd_ii ?_ | with_reducible refine rd_inSg ?_ | with_reducible refine rd_mod (by first | assumption | decide) ?_ | with_reducible refine rd_mul (cmul_r (by decide +kernel)) ?_ | with_reducible refine rd_mul (cmul_l (by decide +kernel)) ?_ | with_reducible refine rc_max ?_ | with_reducible refine rc_min ?_ | with_reducible refine rd_eqI ?_ | with_reducible refine rd_neI ?_ | with_reducible refine rd_eqS (by first | assumption | decide +kernel) (by first | assumption | decide +kernel) ?_ | with_reducible refine rd_neS (by first | assumption | decide +kernel) (by first | assumption | decide +kernel) ?_ | with_reducible refine rd_iC (cpow_ok (by with_unfolding_all rfl)) ?_ | with_reducible refine rd_isN' (b := true) (by with_unfolding_all rfl) ?_ | with_reducible refine rd_isN' (b := false) (by with_unfolding_all rfl) ?_ | with_reducible refine rd_notN' (b := true) (by with_unfolding_all rfl) ?_ | with_reducible refine rd_notN' (b := false) (by with_unfolding_all rfl) ?_ | with_reducible refine rc_len (by first | assumption | with_unfolding_all rfl) ?_ | with_reducible refine rd_ixT0 ?_ | with_reducible refine rd_ixL0 ?_ | with_reducible refine rd_ixT (by first | assumption | with_unfolding_all rfl) ?_ | with_reducible refine rd_ixL (by first | assumption | with_unfolding_all rfl) ?_ | with_reducible refine wp_callF ?_ | with_reducible refine rc_tupL ?_ | with_reducible refine rc_strS ?_ | with_reducible refine rc_all ?_ | with_reducible refine L2.iteT ?_ | with_reducible refine ite_dT (by with_unfolding_all exact of_decide_eq_true rfl) ?_ | with_reducible refine ite_dF (by with_unfolding_all exact of_decide_eq_false rfl) ?_ | with_reducible refine ite_ndT (by with_unfolding_all exact of_decide_eq_true rfl) ?_ | with_reducible refine ite_ndF (by with_unfolding_all exact of_decide_eq_false rfl) ?_ | with_reducible refine L2.iteF ?_ | with_reducible refine ite_nt ?_ | with_reducible refine ite_nf ?_ | refine ⟨_, true, rfl, rfl, ?_⟩ | refine ⟨_, false, rfl, rfl, ?_⟩ | with_reducible refine ⟨_, rfl, ?_⟩ | with_reducible refine ⟨_, _, rfl, ?_⟩ | with_reducible refine And.intro (by first | assumption | exact trivial | with_unfolding_all exact of_decide_eq_true rfl) ?_ | with_reducible refine And.intro Mode.Sub.no ?_ | with_reducible refine ⟨_, (by with_unfolding_all rfl), (by with_unfolding_all exact of_decide_eq_true rfl), ?_⟩))
open PySem PySem.Spec PyProof.Rows L2
section
variable {P : Program} {w : World} {K : PySem.W.Frag} {mg : Str → Option Value} {base : Heap}
abbrev N_is_deed : List Str := ["thing", "word"]
abbrev P_is_deed : List Str := ["thing"]
theorem sc_is_deed : FnScope N_is_deed P_is_deed (defScope s_is_deed) := ⟨rfl, rfl, rfl, by decide +kernel, rfl, by decide +kernel, by decide +kernel⟩
abbrev sp_is_deed (K : PySem.W.Frag) : Sp := spD K (CN K) (fun _ => Mode.no) (fun d : Deed => [.d (.tuple d.L)]) (fun d => d.Ok ∧ d.L.length ≤ 1000) (fun d y => y = .bool (deedB d)) (fun _ => False)
theorem ok_is_deed (W : Wd w K mg) : FnI P w K mg base 3 (He.ga K "is_deed") (sp_is_deed K) := by
  obtain ⟨fd, F⟩ := W.fd_is_deed
  refine FnI.of F sc_is_deed (fun _ _ _ _ _ _ us hl => match us, hl with | [_], _ => rfl) (fun _ _ => rfl) fun cdv A outer s H E hr d ⟨hd, hlen⟩ => ⟨_, (pss_cons (ps_if (PW.pt (pw_or (pt_not (pt_val (pe_callB (callK rIsi K call_isi) rfl W.f_isinstance PyProof.Rows.Boot.«isinstance» (pa_cons (pv 0) (pa_cons (pe_bltn (v := .ty "tuple") rfl W.f_tuple PyProof.Rows.Boot.«tuple» rfl) pa_nil))))) (pw_or (pt_not (pt_chain op_le op_le pe_int (pe_callB (callK rLenD K call_lenD2) rfl W.f_len PyProof.Rows.Boot.«len» (pa_cons (pv 0) pa_nil)) pe_int)) (pw_or1 (pt_not (pt_val (pe_callB (callK rIsi K call_isi) rfl W.f_isinstance PyProof.Rows.Boot.«isinstance» (pa_cons (pe_ix (ixK rIxT K ix_tup) (pv 0) pe_int (fun _ _ => rfl)) (pa_cons (pe_bltn (v := .ty "str") rfl W.f_str PyProof.Rows.Boot.«str» rfl) pa_nil))))))))) (pss_one (ps_ret pe_bl)) pss_nil)
      (pss_cons (ps_set (i := 1) sc_is_deed.nd rfl (Or.inl rfl) (pe_ix (ixK rIxT K ix_tup) (pv 0) pe_int (fun _ _ => rfl)))
      (pss_cons (ps_if (pt_cmpR (opK rEqD K (op_eqD hr.units)) (pe_callB (callK rLenD K call_lenD2) rfl W.f_len PyProof.Rows.Boot.«len» (pa_cons (pv 0) pa_nil)) pe_int (nomark _)) (pss_one (ps_ret (pe_cmpR (opK rInT K (op_inT (u65 hr))) (pv 1) (pe_tup (pa_cons pe_str (pa_cons pe_str pa_nil))) (by rfl)))) pss_nil)
      (pss_cons (ps_if (pt_cmpR (opK rEqD K (op_eqD hr.units)) (pv 1) pe_str (nomark _)) (pss_one (ps_ret (pe_and (pe_cmpR (opK rEqD K (op_eqD hr.units)) (pe_callB (callK rLenD K call_lenD2) rfl W.f_len PyProof.Rows.Boot.«len» (pa_cons (pv 0) pa_nil)) pe_int (nomark _)) (pe_one (pe_callI (ok_is_word W) hr W.g_is_word passL (pa_cons (pe_ix (ixK rIxT K ix_tup) (pv 0) pe_int (fun _ _ => rfl)) pa_nil)))))) pss_nil)
      (pss_cons (ps_if (pt_not (pt_val (pe_callI (ok_is_clause W) hr W.g_is_clause passL (pa_cons (pe_ix (ixK rIxT K ix_tup) (pv 0) pe_int (fun _ _ => rfl)) pa_nil)))) (pss_one (ps_ret pe_bl)) pss_nil)
      (pss_cons (ps_if (pt_cmpR (opK rEqD K (op_eqD hr.units)) (pe_callB (callK rLenD K call_lenD2) rfl W.f_len PyProof.Rows.Boot.«len» (pa_cons (pv 0) pa_nil)) pe_int (nomark _)) (pss_one (ps_ret (pe_cmpR (opK rInT K (op_inT (u65 hr))) (pv 1) (pe_glob (v := .ref (He.ga K "CLAUSE_DEEDS")) rfl W.g_CLAUSE_DEEDS rfl) (by rfl)))) pss_nil)
      (pss_cons (ps_if (pt_cmpR (opK rEqD K (op_eqD hr.units)) (pv 1) pe_str (nomark _)) (pss_one (ps_ret (pe_and (pe_callI (ok_is_number W) hr W.g_is_number passL (pa_cons (pe_ix (ixK rIxT K ix_tup) (pv 0) pe_int (fun _ _ => rfl)) (pa_cons pe_int pa_nil))) (pe_one (pe_cmpR op_le (pe_ix (ixK rIxT K ix_tup) (pv 0) pe_int (fun _ _ => rfl)) (pe_gi W.i_MOST_PART) (nomark _)))))) pss_nil)
      (pss_one (ps_ret (pe_and (pe_cmpR (opK rEqD K (op_eqD hr.units)) (pv 1) pe_str (nomark _)) (pe_one (pe_callI (ok_is_house W) hr W.g_is_house passL (pa_cons (pe_ix (ixK rIxT K ix_tup) (pv 0) pe_int (fun _ _ => rfl)) pa_nil))))))))))))), ?_⟩
  have hjn : ∀ z ∈ [("join" : Str), "note"], okS z = true := by decide +kernel
  have hfr : ∀ z ∈ [("free" : Str), "ready", "quit"], okS z = true := by decide +kernel
  match d, hd, hlen with
  | .say [], hd, _ =>
    try dsimp only [cxOf, Cx.blk, Cx.blkE]
    repeat fail "w"
    refine rd_inTW ["join", "note"] rfl (by decide +kernel) hjn ?_
    repeat fail "w"
    show PyData.bool (decide (("say" : Str) ∈ [("join" : Str), "note"])) = .bool false
    rw [decide_eq_false (by decide +kernel)]
  | .say [x], hd, _ =>
    have hx : Sm x := hd x (by simp)
    try dsimp only [cxOf, Cx.blk, Cx.blkE]
    repeat fail "w"
    rfl
  | .say [x, y], hd, _ =>
    try dsimp only [cxOf, Cx.blk, Cx.blkE]
    repeat fail "w"
    rfl
  | .say (x :: y :: z :: r), hd, _ =>
    try dsimp only [cxOf, Cx.blk, Cx.blkE]
    repeat fail "w"
    have hl : (Deed.say (x :: y :: z :: r)).L.length = r.length + 4 := by simp [Deed.L]
    refine ite_dT (by rw [hl]; omega) ?_
    repeat fail "w"
    rfl
  | .hand c h, hd, _ =>
    have hh : Sm h := hd
    try dsimp only [cxOf, Cx.blk, Cx.blkE]
    repeat fail "w"
    cases hc : clauseB c with
    | false =>
      repeat fail "w"
      show PyData.bool false = .bool (clauseB c && houseB h)
      rw [hc]
      rfl
    | true =>
      repeat fail "w"
      show PyData.bool (houseB h) = .bool (clauseB c && houseB h)
      rw [hc]
      rfl
  | .oth none ns, hd, _ =>
    have hn : ns = [] := hd
    subst hn
    try dsimp only [cxOf, Cx.blk, Cx.blkE]
    repeat fail "w"
    rfl
  | .oth (some u) [], ⟨hw, h1, h2⟩, _ =>
    have hok := hw.ok
    try dsimp only [cxOf, Cx.blk, Cx.blkE]
    repeat fail "w"
    refine rd_inTW ["join", "note"] rfl hok hjn ?_
    repeat fail "w"
    show PyData.bool (decide (u ∈ [("join" : Str), "note"])) = .bool (decide (u = "join" ∨ u = "note"))
    simp
  | .oth (some u) [c], ⟨hw, h1, h2⟩, _ =>
    have hok := hw.ok
    try dsimp only [cxOf, Cx.blk, Cx.blkE]
    repeat fail "w"
    refine ite_dF h1 ?_
    repeat fail "w"
    cases hc : clauseB c with
    | false =>
      repeat fail "w"
      show PyData.bool false = .bool (clauseB c && _)
      rw [hc]
      rfl
    | true =>
      repeat fail "w"
      refine rd_inTr ["free", "ready", "quit"] (fun H => W.deeds H) hok hfr ?_
      repeat fail "w"
      show PyData.bool _ = .bool (clauseB c && _)
      rw [hc]
      rfl
  | .oth (some u) [c, p], ⟨hw, h1, h2⟩, _ =>
    have hok := hw.ok
    try dsimp only [cxOf, Cx.blk, Cx.blkE]
    repeat fail "w"
    refine ite_dF h1 ?_
    repeat fail "w"
    cases hc : clauseB c with
    | false =>
      repeat fail "w"
      show PyData.bool false = .bool (clauseB c && _)
      rw [hc]
      rfl
    | true =>
      repeat fail "w"
      have e0 : deedB (.oth (some u) [c, p]) = (decide (u = "do") && (decide (0 ≤ p) && decide (p ≤ 8))) := by
        show (clauseB c && _) = _
        rw [hc]
        rfl
      refine b_if2 (fun h3 => ?_) (fun h3 => ?_)
      · repeat fail "w"
        refine ⟨(p, 0), rfl, trivial, ?_⟩
        repeat fail "w"
        refine b_if2 (fun h4 => ?_) (fun h4 => ?_)
        · repeat fail "w"
          rw [e0]
          simp [h3, h4]
        · repeat fail "w"
          rw [e0]
          simp [h4]
      · repeat fail "w"
        refine ite_dF h2 ?_
        repeat fail "w"
        rw [e0]
        simp [h3]
  | .oth (some u) (c :: p :: q :: r), ⟨hw, h1, h2⟩, _ =>
    try dsimp only [cxOf, Cx.blk, Cx.blkE]
    repeat fail "w"
    have hl : (Deed.oth (some u) (c :: p :: q :: r)).L.length = r.length + 4 := by simp [Deed.L]
    refine ite_dT (by rw [hl]; omega) ?_
    repeat fail "w"
    rfl
abbrev N_is_letter : List Str := ["thing", "house", "deal", "number", "prev", "gots", "time", "deed"]
abbrev P_is_letter : List Str := ["thing"]
theorem sc_is_letter : FnScope N_is_letter P_is_letter (defScope s_is_letter) := ⟨rfl, rfl, rfl, by decide +kernel, rfl, by decide +kernel, by decide +kernel⟩
abbrev sp_is_letter (K : PySem.W.Frag) : Sp := spD K (CN K) (fun _ => Mode.no) (fun l : Letter => [.d l.D]) Letter.Ok (fun l y => y = .bool (letterB l)) (fun _ => False)
theorem ok_is_letter (W : Wd w K mg) : FnI P w K mg base 4 (He.ga K "is_letter") (sp_is_letter K) := by
  obtain ⟨fd, F⟩ := W.fd_is_letter
  refine FnI.of F sc_is_letter (fun _ _ _ _ _ _ us hl => match us, hl with | [_], _ => rfl) (fun _ _ => rfl) fun cdv A outer s H E hr ⟨⟨a, b, n⟩, prev, gots, time, deed⟩ hl => ⟨_, (pss_cons (ps_if (PW.pt (pw_or (pt_not (pt_val (pe_callB (callK rIsi K call_isi) rfl W.f_isinstance PyProof.Rows.Boot.«isinstance» (pa_cons (pv 0) (pa_cons (pe_bltn (v := .ty "tuple") rfl W.f_tuple PyProof.Rows.Boot.«tuple» rfl) pa_nil))))) (pw_or1 (pt_cmpR (opK rNeD K (op_neD hr.units)) (pe_callB (callK rLenD K call_lenD2) rfl W.f_len PyProof.Rows.Boot.«len» (pa_cons (pv 0) pa_nil)) pe_int (nomark _))))) (pss_one (ps_ret pe_bl)) pss_nil)
      (pss_cons (ps_asg (pv 0) (pg_tupK 7 K rfl (pgs_cons (pg_name (i := 1) sc_is_letter.nd rfl (Or.inl rfl)) (pgs_cons (pg_name (i := 2) sc_is_letter.nd rfl (Or.inl rfl)) (pgs_cons (pg_name (i := 3) sc_is_letter.nd rfl (Or.inl rfl)) (pgs_cons (pg_name (i := 4) sc_is_letter.nd rfl (Or.inl rfl)) (pgs_cons (pg_name (i := 5) sc_is_letter.nd rfl (Or.inl rfl)) (pgs_cons (pg_name (i := 6) sc_is_letter.nd rfl (Or.inl rfl)) (pgs_cons (pg_name (i := 7) sc_is_letter.nd rfl (Or.inl rfl)) pgs_nil)))))))))
      (pss_cons (ps_if (PW.pt (pw_or (pt_not (pt_val (pe_callI (ok_is_name_letters W) hr W.g_is_name_letters passL (pa_cons (pe_tup (pa_cons (pv 1) (pa_cons (pv 2) (pa_cons (pv 3) pa_nil)))) pa_nil)))) (pw_or (pt_not (pt_val (pe_callI (ok_is_number W) hr W.g_is_number passL (pa_cons (pv 4) (pa_cons pe_int pa_nil))))) (pw_or1 (pt_not (pt_val (pe_callI (ok_is_number W) hr W.g_is_number passL (pa_cons (pv 6) (pa_cons pe_int pa_nil))))))))) (pss_one (ps_ret pe_bl)) pss_nil)
      (pss_one (ps_ret (pe_and (pe_callI (ok_are_gots W) hr W.g_are_gots passL (pa_cons (pv 5) (pa_cons (pv 1) (pa_cons (pv 2) pa_nil)))) (pe_one (pe_callI (ok_is_deed W) hr W.g_is_deed passL (pa_cons (pv 7) pa_nil))))))))), ?_⟩
  obtain ⟨⟨h1, h2⟩, h3, h4, h5, h6⟩ := hl
  try dsimp only [cxOf, Cx.blk, Cx.blkE]
  repeat fail "w"
  refine ws_unp (.cons _ (.cons _ (.cons _ (.cons _ (.cons _ (.cons _ (.cons _ .nil))))))) ?_
  repeat fail "w"
  refine ⟨⟨h1, h2⟩, ?_⟩
  repeat fail "w"
  have e0 : letterB ⟨(a, b, n), prev, gots, time, deed⟩ = (nameB (a, b, n) && (decide (0 ≤ prev) && (decide (0 ≤ time) && (gotsB gots a b && deedB deed)))) := rfl
  have ho1 : okS a = true := h1.ok
  have ho2 : okS b = true := h2.ok
  have h3' : ∀ g ∈ gots, NmOk g := h3
  have h4' : gots.length ≤ 1000 := h4
  have h5' : deed.Ok := h5
  have h6' : deed.L.length ≤ 1000 := h6
  rw [e0]
  show if (!nameB (a, b, n)) = true then _ else _
  refine b_ifnb (fun k1 => ?_) (fun k1 => ?_)
  · rw [k1]
    repeat fail "w"
    refine ⟨(prev, 0), rfl, trivial, ?_⟩
    repeat fail "w"
    refine b_ifn (fun k2 => ?_) (fun k2 => ?_)
    · rw [decide_eq_true k2]
      repeat fail "w"
      refine ⟨(time, 0), rfl, trivial, ?_⟩
      repeat fail "w"
      refine b_ifn (fun k3 => ?_) (fun k3 => ?_)
      · rw [decide_eq_true k3]
        repeat fail "w"
        refine ⟨(gots, a, b), rfl, ⟨h3', h4', ho1, ho2⟩, ?_⟩
        repeat fail "w"
        cases k4 : gotsB gots a b with
        | true =>
          repeat fail "w"
          refine ⟨⟨h5', h6'⟩, ?_⟩
          repeat fail "w"
          rfl
        | false =>
          repeat fail "w"
          rfl
      · rw [decide_eq_false k3]
        repeat fail "w"
        rfl
    · rw [decide_eq_false k2]
      repeat fail "w"
      rfl
  · rw [k1]
    repeat fail "w"
    rfl
end
end K84

/-! part K84D8 -/
set_option maxHeartbeats 1000000
/-! K84D8: take_time, read_letter. -/
namespace K84
local macro_rules | `(tactic| fail "f") => `(tactic| (first | with_reducible refine fs_nx ?_ | with_reducible refine fs_ret ?_ | with_reducible refine fs_if ?_ | with_reducible refine ft_B ?_ | with_reducible refine ft_test ?_ | with_reducible refine ft_not ?_ | with_reducible refine wf_op ?_ | with_reducible refine wf_cb ?_ | with_reducible refine wf_tup ?_ | with_reducible refine fa_cons ?_ | with_reducible refine fa_nil ?_ | with_reducible refine wf_vr (by with_unfolding_all rfl) ?_ | with_reducible refine wf_in ?_ | with_reducible refine wf_st ?_ | with_reducible refine wf_b ?_ | with_reducible refine wf_nn ?_ | fail "w"))
local macro_rules | `(tactic| fail "w") => `(tactic| (first | with_reducible refine wp_neg ?_ | with_reducible refine wp_pick ?_ | with_reducible refine wp_draw ?_ | with_reducible refine ws_seq ?_ | with_reducible refine ws_nx ?_ | with_reducible refine ws_set ?_ | with_reducible refine ws_ret ?_ | with_reducible refine ws_if ?_ | with_reducible refine ws_drop ?_ | with_reducible refine wt_or ?_ | with_reducible refine wt_and ?_ | with_reducible refine wt_not ?_ | with_reducible refine wt_B ?_ | with_reducible refine wt_test ?_ | with_reducible refine wp_chain ?_ | with_reducible refine wp_andV ?_ | with_reducible refine wp_orV ?_ | with_reducible refine wp_notV ?_ | with_reducible refine wp_if ?_ | with_reducible refine wp_int ?_ | with_reducible refine wp_var (by with_unfolding_all rfl) ?_ | with_reducible refine wp_str ?_ | with_reducible refine wp_bl ?_ | with_reducible refine wp_non ?_ | with_reducible refine wp_ref ?_ | with_reducible refine wp_op ?_ | with_reducible refine wp_tup' ?_ | with_reducible refine wp_lst' ?_ | with_reducible refine wa_cons ?_ | with_reducible refine wa_nil ?_ | with_reducible refine wp_sl ?_ | with_reducible refine wo_none ?_ | with_reducible refine wo_some ?_ | with_reducible refine wp_isi' (by simp) ?_ | with_reducible refine wp_allIn (by with_unfolding_all rfl) (by assumption) (by with_unfolding_all exact of_decide_eq_true rfl) (by with_unfolding_all rfl) ?_ | with_reducible refine wp_cb ?_ | with_reducible refine wp_m1 ?_ | with_reducible refine rs_T1 ?_ | with_reducible refine rs_T' (by with_unfolding_all rfl) (by with_unfolding_all rfl) ?_ | with_reducible refine wi_list ?_ | with_reducible refine wi_tup ?_ | with_reducible refine wi_str ?_ | with_reducible refine wi_rng1 ?_ | with_reducible refine wi_rng2 ?_ | with_reducible refine wi_zipT ?_ | with_reducible refine wi_zipM ?_ | with_reducible refine wi_enum ?_ | with_reducible refine rd_ib ?_ | with_reducible refine rd_ii ?_ | with_reducible refine rd_inSg ?_ | with_reducible refine rd_mod (by first | assumption | decide) ?_ | with_reducible refine rd_mul (cmul_r (by decide +kernel)) ?_ | with_reducible refine rd_mul (cmul_l (by decide +kernel)) ?_ | with_reducible refine rc_max ?_ | with_reducible refine rc_min ?_ | with_reducible refine rd_eqI ?_ | with_reducible refine rd_neI ?_ | with_reducible refine rd_eqS (by first | assumption | decide +kernel) (by first | assumption | decide +kernel) ?_ | with_reducible refine rd_neS (by first | assumption | decide +kernel) (by first | assumption | decide +kernel) ?_ | with_reducible refine rd_iC (cpow_ok (by with_unfolding_all rfl)) ?_ | with_reducible refine rd_isN' (b := true) (by with_unfolding_all rfl) ?_ | with_reducible refine rd_isN' (b := false) (by with_unfolding_all rfl) ?_ | with_reducible refine rd_notN' (b := true) (by with_unfolding_all rfl) ?_ | with_reducible refine rd_notN' (b := false) (by with_unfolding_all rfl) ?_ | with_reducible refine rc_len (by first | assumption | with_unfolding_all rfl) ?_ | with_reducible refine rd_ixT0 ?_ | with_reducible refine rd_ixL0 ?_ | with_reducible refine rd_ixT (by first | assumption | with_unfolding_all rfl) ?_ | with_reducible refine rd_ixL (by first | assumption | with_unfolding_all rfl) ?_ | with_reducible refine wp_callF ?_ | with_reducible refine rc_tupL ?_ | with_reducible refine rc_strS ?_ | with_reducible refine rc_all ?_ | with_reducible refine L2.iteT ?_ | with_reducible refine ite_dT (by with_unfolding_all exact of_decide_eq_true rfl) ?_ | with_reducible refine ite_dF (by with_unfolding_all exact of_decide_eq_false rfl) ?_ | with_reducible refine ite_ndT (by with_unfolding_all exact of_decide_eq_true rfl) ?_ | with_reducible refine ite_ndF (by with_unfolding_all exact of_decide_eq_false rfl) ?_ | with_reducible refine L2.iteF ?_ | with_reducible refine ite_nt ?_ | with_reducible refine ite_nf ?_ | refine ⟨_, true, rfl, rfl, ?_⟩ | refine ⟨_, false, rfl, rfl, ?_⟩ | with_reducible refine ⟨_, rfl, ?_⟩ | with_reducible refine ⟨_, _, rfl, ?_⟩ | with_reducible refine And.intro (by first | assumption | exact trivial | with_unfolding_all exact of_decide_eq_true rfl) ?_ | with_reducible refine And.intro Mode.Sub.no ?_ | with_reducible refine ⟨_, (by with_unfolding_all rfl), (by with_unfolding_all exact of_decide_eq_true rfl), ?_⟩))
open PySem PySem.Spec PyProof.Rows L2
section
variable {P : Program} {w : World} {K : PySem.W.Frag} {mg : Str → Option Value} {base : Heap}
theorem cut_len {z : Str} : (cutS z none (some (-1))).length ≤ z.length := by
  show (List.toArray _).size ≤ _
  rw [List.size_toArray, List.length_take]
  refine Nat.le_trans (Nat.min_le_right _ _) ?_
  rw [List.length_drop]
  have e : z.cps.toList.length = z.length := Array.length_toList
  omega
theorem cut_Sm {z : Str} (h : Sm z) : Sm (cutS z none (some (-1))) := by
  refine ⟨Nat.le_trans cut_len h.len, (okS_iff _).mpr fun c hc => (okS_iff z).mp h.ok c ?_⟩
  have hc' : c ∈ (((z.cps.toList.drop (HT.sIx z.length 0 none)).take (HT.sIx z.length z.length (some (-1)) - HT.sIx z.length 0 none)).toArray).toList := hc
  rw [List.toList_toArray] at hc'
  exact List.mem_of_mem_drop (List.mem_of_mem_take hc')
abbrev N_Words_take_time : List Str := ["self", "word"]
abbrev P_Words_take_time : List Str := ["self"]
theorem sc_Words_take_time : FnScope N_Words_take_time P_Words_take_time (defScope s_Words_take_time) := ⟨rfl, rfl, rfl, by decide +kernel, rfl, by decide +kernel, by decide +kernel⟩
abbrev sp_Words_take_time (K : PySem.W.Frag) : Sp := spF K (CN K) (famW K (CW K)) (fun p => [.r p]) (fun _ _ => True) (fun _ c d c' => ∃ q, takeTime c.rest = some q ∧ d = .int q.1 ∧ c'.rest = q.2) (fun _ c => takeTime c.rest = none)
theorem ok_Words_take_time (W : Wd w K mg) : FnI P w K mg base 4 (He.ma K (He.ga K "Words") "take_time") (sp_Words_take_time K) := by
  obtain ⟨fd, D⟩ := W.fd_Words_take_time
  refine FnI.ofF D sc_Words_take_time (fun _ _ _ _ _ _ us hl => match us, hl with | [_], _ => rfl) (fun _ => rfl) fun cdv A outer s H E hr p c _ => ⟨_, (pss_cons (ps_if (pt_cmpR (opK rNeD K (op_neD hr.units)) (pe_methI (pv 0) W.cls_Words W.m_take (ok_Words_take W) hr (passes_call (takes_of rfl rfl rfl rfl) (fun _ _ _ _ h => h))) pe_str (nomark _)) (pss_one (ps_raise rfl (takes_of rfl rfl rfl rfl) (pmk_NL W hr))) pss_nil)
      (pss_cons (ps_set (i := 1) sc_Words_take_time.nd rfl (Or.inl rfl) (pe_methI (pv 0) W.cls_Words W.m_take (ok_Words_take W) hr (passes_call (takes_of rfl rfl rfl rfl) (fun _ _ _ _ h => h))))
      (pss_cons (ps_if (pt_not (pt_val (pe_m1 PySem.F.slot_str_endswith PySem.F.type_str_endswith mt_ends (pv 1) pe_str rfl))) (pss_one (ps_raise rfl (takes_of rfl rfl rfl rfl) (pmk_NL W hr))) pss_nil)
      (pss_one (ps_ret (pe_callI (ok_number_of W) hr W.g_number_of (passes_call (takes_of rfl rfl rfl rfl) (fun _ _ _ _ h => h)) (pa_cons (pe_slice sl_str (pv 1) po_none (po_some (pe_un un_neg pe_int))) pa_nil))))))), ?_⟩
  try dsimp only [cxOf, Cx.blk, Cx.blkE]
  refine fs_ok fun ho => ?_
  refine fs_seq (fs_if (ft_test (wf_op (wf_meth (.inl rfl) (by decide +kernel) rfl trivial (fun d c2 hd => ?_) (fun hx => ?_)))))
  · obtain ⟨a, r, e1, rfl, rfl⟩ := hd
    have ho2 := ho.next e1
    have e2 := WSt.rest_next e1
    have ha := (ho.mem (z := a) (by rw [e1]; exact List.mem_cons_self)).1.ok
    repeat fail "f"
    refine b_ifn (fun h1 => ?_) (fun h1 => ?_)
    · repeat fail "f"
      refine fs_seq (fs_set (wf_meth (.inl rfl) (by decide +kernel) rfl trivial (fun d c3 hd => ?_) (fun hx => ?_)))
      · obtain ⟨z, r2, e3, rfl, rfl⟩ := hd
        have e4 := WSt.rest_next e3
        rw [e2] at e3
        subst e3
        have hz := (ho.mem (z := z) (by rw [e1]; simp)).1
        refine fs_seq (fs_if (ft_lift0 ?_))
        repeat fail "w"
        refine rt_ends ?_
        repeat fail "w"
        refine b_ifnb (fun h2 => ?_) (fun h2 => ?_)
        · repeat fail "f"
          refine wf_lift0 ?_
          repeat fail "w"
          refine wp_call (.inl rfl) ?_
          repeat fail "w"
          refine rs_S (z := z) (by have := hz.len; rw [sizeLine_eq]; omega) ?_
          repeat fail "w"
          refine ⟨cut_Sm hz, .no, fun y hy => ?_, fun hx => ?_⟩
          · obtain ⟨v, hv, rfl⟩ := hy
            refine ⟨_, rfl, (v, r2), ?_, rfl, e4⟩
            show takeTime c.rest = _
            rw [e1]
            show (if a = "at" ∧ Txt.endswith z ":" = true then _ else _) = _
            rw [if_pos ⟨h1, h2⟩, hv]
            rfl
          · show takeTime c.rest = none
            rw [e1]
            show (if a = "at" ∧ Txt.endswith z ":" = true then _ else _) = _
            rw [if_pos ⟨h1, h2⟩, hx]
            rfl
        · refine fs_lift0 (ws_raise W.rc1 ?_)
          show takeTime c.rest = none
          rw [e1]
          exact if_neg fun q => by rw [q.2] at h2; cases h2
      · have hx' : c.next.rest = [] := hx
        rw [e2] at hx'
        show takeTime c.rest = none
        rw [e1, hx']
        rfl
    · refine fs_lift0 (ws_raise W.rc1 ?_)
      show takeTime c.rest = none
      rw [e1]
      cases r with
      | nil => rfl
      | cons z r2 => exact if_neg fun q => h1 q.1
  · show takeTime c.rest = none
    have hx' : c.rest = [] := hx
    rw [hx']
    rfl
theorem deedOf_ok {ws : List Str} {d : Deed} (hw : ∀ z ∈ ws, Sm z) (h : deedOf ws = some d) : d.Ok ∧ d.L.length ≤ ws.length := by
  unfold deedOf at h
  split at h
  · rename_i e
    cases h
    match ws, e with
    | a :: r, e =>
      exact ⟨fun z hz => hw z (by simp at hz ⊢; exact .inr hz), by show (_ :: (List.map _ _)).length ≤ _; simp⟩
  · rename_i n1
    split at h
    · rename_i e
      split at h
      · cases h
      · rename_i n2
        cases hn : numB (ws.getD 1 "") with
        | none =>
          rw [hn] at h
          cases h
        | some c =>
          rw [hn] at h
          cases h
          have h4 : ws.length = 4 := Classical.byContradiction fun q => n2 (.inl q)
          match ws, h4 with
          | [a, b, c', d'], _ => exact ⟨hw d' (by simp), by show 3 ≤ 4; decide⟩
    · rename_i n2
      cases hm : (ws.drop 1).mapM numB with
      | none =>
        rw [hm] at h
        cases h
      | some ns =>
        rw [hm] at h
        cases h
        have hl := paired_len hm
        match ws, n1, n2, hl with
        | [], _, _, hl =>
          have e : ns = [] := List.eq_nil_of_length_eq_zero hl
          subst e
          exact ⟨rfl, by decide⟩
        | a :: r, n1, n2, hl =>
          refine ⟨⟨hw a (by simp), fun q => n1 (by rw [q]; rfl), fun q => n2 (by rw [q]; rfl)⟩, ?_⟩
          show (PyData.str a :: ns.map PyData.int).length ≤ _
          simp at hl ⊢
          omega
theorem wf_restW {Γ : Ctx0} {C p : Addr} {c : WSt} {ss : Sd} {k : Dv → WSt → Prop} {x : Prop} {i : Nat} (hC : Cls Γ.K C) (hn : NoAttr Γ.K C "words") (hn2 : NoAttr Γ.K C "at") (hi : ss[i]? = some (some (.r p))) (hk : k (.d (.list (c.rest.map PyData.str))) c) :
    WpF Γ (famW Γ.K C p) c (tSl (rSlL Γ.K) (tFld Γ.K (tVar i) "words") (tPart (tFld Γ.K (tVar i) "at")) tNoPart) ss k x := fun Pr G H σ v s Q kq kx => by
  refine wf_fldW (k := fun d c' => d = .d (.list (c.ws.map PyData.str)) ∧ c' = c) hC hn hi ⟨rfl, rfl⟩ Pr G H σ v s _ (fun d w c1 G1 H1 ⟨ed, ec⟩ g rd => ?_) kx
  subst ed ec
  refine wf_fldA (k := fun d c' => d = .d (.int (c1.n : Nat)) ∧ c' = c1) hC hn2 hi ⟨rfl, rfl⟩ Pr G1 H1 σ g.vw (s.mono g.g) _ (fun d w2 c2 G2 H2 ⟨ed, ec⟩ g2 rd2 => ?_) (kx.on g.h)
  subst ed ec
  cases rd2
  refine ⟨_, rfl, ?_⟩
  exact rs_dropM (Γ := Γ.at Mode.no) (k := fun d => k d c2) c2.n hk Pr G2 H2 w (g2.vw.sub .no) (rd.mono g2.g) Q fun d w3 G3 H3 hd g3 rd3 => kq d w3 c2 G3 H3 hd ((g.trans g2).trans (.of (g3.sub .no g2.vw))) rd3
theorem gotsR_ok : ∀ {l : List Str} {q : List Nm × List Str}, gotsR l = some q → (∀ y ∈ l, Sm y) → (∀ g ∈ q.1, NmOk g) ∧ q.1.length ≤ l.length
  | [], q, h, _ => by cases h
  | z :: r, q, h, hm => by
    rw [gotsR] at h
    split at h
    · cases h
      exact ⟨fun g hg => by simp at hg, Nat.zero_le _⟩
    · cases hn : nameOf z with
      | none =>
        rw [hn] at h
        cases h
      | some g =>
        rw [hn] at h
        cases hr : gotsR r with
        | none =>
          rw [hr] at h
          cases h
        | some q' =>
          rw [hr] at h
          cases h
          obtain ⟨h1, h2⟩ := gotsR_ok hr fun y hy => hm y (List.mem_cons_of_mem _ hy)
          refine ⟨fun x hx => ?_, Nat.succ_le_succ h2⟩
          rcases List.mem_cons.mp hx with e | e
          · rw [e]
            exact nameOf_ok (hm z List.mem_cons_self) hn
          · exact h1 x e
theorem takeGots_ok {l : List Str} {q : List Nm × List Str} (h : takeGots l = some q) (hm : ∀ y ∈ l, Sm y) : (∀ g ∈ q.1, NmOk g) ∧ q.1.length ≤ l.length := by
  unfold takeGots at h
  split at h
  · match l, h with
    | _ :: z :: r, h =>
      have h' : ((nameOf z).bind fun g => (gotsR r).map fun q => (g :: q.1, q.2)) = some q := h
      cases hn : nameOf z with
      | none =>
        rw [hn] at h'
        cases h'
      | some g =>
        rw [hn] at h'
        cases hr : gotsR r with
        | none =>
          rw [hr] at h'
          cases h'
        | some q' =>
          rw [hr] at h'
          cases h'
          obtain ⟨h1, h2⟩ := gotsR_ok hr fun y hy => hm y (by simp [hy])
          refine ⟨fun x hx => ?_, by simp; omega⟩
          rcases List.mem_cons.mp hx with e | e
          · rw [e]
            exact nameOf_ok (hm z (by simp)) hn
          · exact h1 x e
  · cases h
    exact ⟨fun g hg => by simp at hg, Nat.zero_le _⟩
theorem readL_cons {a b n : Str} {r : List Str} : readL (a :: b :: n :: r) = (numB n).bind fun v => (takePrev r).bind fun p => (takeGots p.2).bind fun g => (takeTime g.2).bind fun t => (deedOf t.2).bind fun e => if letterB ⟨(a, b, v), p.1, g.1, t.1, e⟩ = true then some ⟨(a, b, v), p.1, g.1, t.1, e⟩ else none := rfl
abbrev N_read_letter : List Str := ["text", "words", "head", "prev", "gots", "time", "letter"]
abbrev P_read_letter : List Str := ["text"]
theorem sc_read_letter : FnScope N_read_letter P_read_letter (defScope s_read_letter) := ⟨rfl, rfl, rfl, by decide +kernel, rfl, by decide +kernel, by decide +kernel⟩
abbrev sp_read_letter (K : PySem.W.Frag) : Sp := spD K (CN K) (fun _ => Mode.no) (fun z : Str => [.d (.str z)]) (fun z => z.length ≤ 90000 ∧ okS z = true ∧ (∀ y ∈ wordsOf z, Sm y) ∧ (wordsOf z).length ≤ 500) (fun z y => ∃ l, readL (wordsOf z) = some l ∧ y = l.D) (fun z => readL (wordsOf z) = none)
theorem ok_read_letter (W : Wd w K mg) : FnI P w K mg base 6 (He.ga K "read_letter") (sp_read_letter K) := by
  obtain ⟨fd, F⟩ := W.fd_read_letter
  refine FnI.of F sc_read_letter (fun _ _ _ _ _ _ us hl => match us, hl with | [_], _ => rfl) (fun _ _ => rfl) fun cdv A outer s H E hr z ⟨h1, h2, h3, h4⟩ => ⟨_, (pss_cons (ps_set (i := 1) sc_read_letter.nd rfl (Or.inl rfl) (pe_makeI W.mk_Words (ok_Words_init W) hr W.g_Words passL (pa_cons (pe_callI (ok_words_of W) hr W.g_words_of (passes_call (takes_of rfl rfl rfl rfl) (fun _ _ _ _ h => h)) (pa_cons (pv 0) pa_nil)) pa_nil)))
      (pss_cons (ps_set (i := 2) sc_read_letter.nd rfl (Or.inl rfl) (pe_tup (pa_cons (pe_methI (pv 1) W.cls_Words W.m_take (ok_Words_take W) hr (passes_call (takes_of rfl rfl rfl rfl) (fun _ _ _ _ h => h))) (pa_cons (pe_methI (pv 1) W.cls_Words W.m_take (ok_Words_take W) hr (passes_call (takes_of rfl rfl rfl rfl) (fun _ _ _ _ h => h))) (pa_cons (pe_callI (ok_number_of W) hr W.g_number_of (passes_call (takes_of rfl rfl rfl rfl) (fun _ _ _ _ h => h)) (pa_cons (pe_methI (pv 1) W.cls_Words W.m_take (ok_Words_take W) hr (passes_call (takes_of rfl rfl rfl rfl) (fun _ _ _ _ h => h))) pa_nil)) pa_nil)))))
      (pss_cons (ps_set (i := 3) sc_read_letter.nd rfl (Or.inl rfl) (pe_methI (pv 1) W.cls_Words W.m_take_prev (ok_Words_take_prev W) hr (passes_call (takes_of rfl rfl rfl rfl) (fun _ _ _ _ h => h))))
      (pss_cons (ps_set (i := 4) sc_read_letter.nd rfl (Or.inl rfl) (pe_methI (pv 1) W.cls_Words W.m_take_gots (ok_Words_take_gots W) hr (passes_call (takes_of rfl rfl rfl rfl) (fun _ _ _ _ h => h))))
      (pss_cons (ps_set (i := 5) sc_read_letter.nd rfl (Or.inl rfl) (pe_methI (pv 1) W.cls_Words W.m_take_time (ok_Words_take_time W) hr (passes_call (takes_of rfl rfl rfl rfl) (fun _ _ _ _ h => h))))
      (pss_cons (ps_set (i := 6) sc_read_letter.nd rfl (Or.inl rfl) (pe_op op_catT (pv 2) (pe_tup (pa_cons (pv 3) (pa_cons (pv 4) (pa_cons (pv 5) (pa_cons (pe_callI (ok_deed_of W) hr W.g_deed_of (passes_call (takes_of rfl rfl rfl rfl) (fun _ _ _ _ h => h)) (pa_cons (pe_slice (slK rSlL K sl_list) (pe_fld (pv 1) rfl) (po_some (pe_fld (pv 1) rfl)) po_none) pa_nil)) pa_nil)))))))
      (pss_cons (ps_if (pt_not (pt_val (pe_callI (ok_is_letter W) hr W.g_is_letter passL (pa_cons (pv 6) pa_nil)))) (pss_one (ps_raise rfl (takes_of rfl rfl rfl rfl) (pmk_NL W hr))) pss_nil)
      (pss_one (ps_ret (pv 6)))))))))), ?_⟩
  try dsimp only [cxOf, Cx.blk, Cx.blkE]
  have hne : ∀ y ∈ wordsOf z, y ≠ "" := fun y hy => by
    have := (List.mem_filter.mp hy).2
    intro e
    subst e
    exact absurd this (by decide)
  refine ws_make ?_
  repeat fail "w"
  refine ⟨⟨h1, h2⟩, ?_⟩
  repeat fail "w"
  refine ⟨⟨fun y hy => ⟨h3 y hy, hne y hy⟩, h4, Nat.zero_le _⟩, fun p => ?_⟩
  have e0 : (⟨wordsOf z, 0⟩ : WSt).rest = wordsOf z := rfl
  generalize hc0 : (⟨wordsOf z, 0⟩ : WSt) = c0 at *
  have hm : ∀ y ∈ c0.rest, Sm y := by rw [e0]; exact h3
  rw [← e0]
  clear hc0
  refine fs_seq (fs_set (wf_tup (fa_cons (wf_meth (.inl rfl) (by decide +kernel) rfl trivial (fun d c1 hd => ?_) (fun hx => ?_)))))
  · obtain ⟨a, r1, a1, rfl, rfl⟩ := hd
    have b1 := WSt.rest_next a1
    refine fa_cons (wf_meth (.inl rfl) (by decide +kernel) rfl trivial (fun d c2 hd => ?_) (fun hx => ?_))
    · obtain ⟨b, r2, a2, rfl, rfl⟩ := hd
      have b2 := WSt.rest_next a2
      refine fa_cons (wf_call (.inl rfl) (fa_cons (wf_meth (.inl rfl) (by decide +kernel) rfl trivial (fun d c3 hd => ?_) (fun hx => ?_))))
      · obtain ⟨n, r3, a3, rfl, rfl⟩ := hd
        have b3 := WSt.rest_next a3
        have e1 : c0.rest = a :: b :: n :: r3 := by rw [a1, ← b1, a2, ← b2, a3]
        have hr3 : c0.next.next.next.rest = r3 := b3
        generalize hc3 : c0.next.next.next = c3 at *
        rw [e1] at hm
        repeat fail "f"
        refine ⟨hm n (by simp), .no, fun y hy => ?_, fun hx => ?_⟩
        · obtain ⟨v, hv, rfl⟩ := hy
          repeat fail "f"
          refine fs_seq (fs_set (wf_meth (.inl rfl) (by decide +kernel) rfl trivial (fun d c4 hd => ?_) (fun hx => ?_)))
          · obtain ⟨q1, p1, rfl, t1⟩ := hd
            dsimp only
            refine fs_ok fun o4 => ?_
            refine fs_seq (fs_set (wf_meth (.inl rfl) (by decide +kernel) rfl trivial (fun d c5 hd => ?_) (fun hx => ?_)))
            · obtain ⟨q2, p2, rfl, t2⟩ := hd
              refine fs_seq (fs_set (wf_meth (.inl rfl) (by decide +kernel) rfl trivial (fun d c6 hd => ?_) (fun hx => ?_)))
              · obtain ⟨q3, p3, rfl, t3⟩ := hd
                dsimp only
                refine fs_ok fun o6 => ?_
                have hL := @readL_cons a b n r3
                rw [hv, ← b3, p1] at hL
                simp only [Option.bind_some] at hL
                rw [← t1, p2] at hL
                simp only [Option.bind_some] at hL
                rw [← t2, p3] at hL
                simp only [Option.bind_some] at hL
                rw [← t3, b3, ← e1] at hL
                have hs6 : ∀ y ∈ c6.rest, Sm y := fun y hy => (o6.mem hy).1
                have hl6 : c6.rest.length ≤ 500 := by
                  show (c6.ws.drop c6.n).length ≤ 500
                  rw [List.length_drop]
                  have := o6.2.1
                  omega
                obtain ⟨g1, g2⟩ := takeGots_ok p2 fun y hy => (o4.mem hy).1
                have hl4 : c4.rest.length ≤ 500 := by
                  show (c4.ws.drop c4.n).length ≤ 500
                  rw [List.length_drop]
                  have := o4.2.1
                  omega
                refine fs_seq (fs_set ?_)
                repeat fail "f"
                refine wf_call (.inl rfl) (fa_cons (wf_restW W.cls_Words W.na_words W.na_at rfl (fa_nil ?_)))
                refine ⟨c6.rest, rfl, ⟨hs6, by omega⟩, .no, fun y hy => ?_, fun hx => ?_⟩
                · obtain ⟨dd, hdd, rfl⟩ := hy
                  rw [hdd] at hL
                  simp only [Option.bind_some] at hL
                  obtain ⟨k1, k2⟩ := deedOf_ok hs6 hdd
                  refine fa_nil ⟨_, rfl, by simp, ?_⟩
                  refine rd_catT (fun z => nomatch z) (by rw [sizeLine_eq]; simp) ?_
                  refine fs_lift0 ?_
                  repeat fail "w"
                  have hg1000 : q2.1.length ≤ 1000 := by omega
                  have hd1000 : dd.L.length ≤ 1000 := by omega
                  refine ⟨⟨(a, b, v), q1.1, q2.1, q3.1, dd⟩, rfl, ⟨⟨hm a (by simp), hm b (by simp)⟩, g1, hg1000, k1, hd1000⟩, ?_⟩
                  refine ⟨_, rfl, ?_⟩
                  refine b_ifnb (fun h5 => ?_) (fun h5 => ?_)
                  · repeat fail "w"
                    refine ⟨⟨(a, b, v), q1.1, q2.1, q3.1, dd⟩, ?_, rfl⟩
                    rw [hL, if_pos h5]
                  · refine ws_raise W.rc1 ?_
                    show readL c0.rest = none
                    rw [hL, h5]
                    rfl
                · show readL c0.rest = none
                  rw [hL, hx]
                  rfl
              · show readL c0.rest = none
                have hx' : takeTime c5.rest = none := hx
                rw [e1, readL_cons, hv, ← b3, p1]
                simp only [Option.bind_some]
                rw [← t1, p2]
                simp only [Option.bind_some]
                rw [← t2, hx']
                rfl
            · show readL c0.rest = none
              have hx' : takeGots c4.rest = none := hx
              rw [e1, readL_cons, hv, ← b3, p1]
              simp only [Option.bind_some]
              rw [← t1, hx']
              rfl
          · show readL c0.rest = none
            have hx' : takePrev c3.rest = none := hx
            rw [e1, readL_cons, hv, ← b3, hx']
            rfl
        · show readL c0.rest = none
          rw [e1, readL_cons, hx]
          rfl
      · show readL c0.rest = none
        have hx' : c0.next.next.rest = [] := hx
        rw [a1, ← b1, a2, ← b2, hx']
        rfl
    · show readL c0.rest = none
      have hx' : c0.next.rest = [] := hx
      rw [a1, ← b1, hx']
      rfl
  · show readL c0.rest = none
    have hx' : c0.rest = [] := hx
    rw [hx']
    rfl
end
end K84

/-! part K84D5 -/
set_option maxHeartbeats 1000000
/-! K84D5: is_sort, is_claim. -/
namespace K84
local macro_rules | `(tactic| fail "w") => `(tactic| (first | with_reducible refine wp_neg ?_ | with_reducible refine wp_pick ?_ | with_reducible refine wp_draw ?_ | with_reducible refine ws_seq ?_ | with_reducible refine ws_nx ?_ | with_reducible refine ws_set ?_ | with_reducible refine ws_ret ?_ | with_reducible refine ws_if ?_ | with_reducible refine ws_drop ?_ | with_reducible refine wt_or ?_ | with_reducible refine wt_and ?_ | with_reducible refine wt_not ?_ | with_reducible refine wt_B ?_ | with_reducible refine wt_test ?_ | with_reducible refine wp_chain ?_ | with_reducible refine wp_andV ?_ | with_reducible refine wp_orV ?_ | with_reducible refine wp_notV ?_ | with_reducible refine wp_if ?_ | with_reducible refine wp_int ?_ | with_reducible refine wp_var (by with_unfolding_all rfl) ?_ | with_reducible refine wp_str ?_ | with_reducible refine wp_bl ?_ | with_reducible refine wp_non ?_ | with_reducible refine wp_ref ?_ | with_reducible refine wp_op ?_ | with_reducible refine wp_tup' ?_ | with_reducible refine wp_lst' ?_ | with_reducible refine wa_cons ?_ | with_reducible refine wa_nil ?_ | with_reducible refine wp_sl ?_ | with_reducible refine wo_none ?_ | with_reducible refine wo_some ?_ | with_reducible refine wp_isi' (by simp) ?_ | with_reducible refine wp_allIn (by with_unfolding_all rfl) (by assumption) (by with_unfolding_all exact of_decide_eq_true rfl) (by with_unfolding_all rfl) ?_ | with_reducible refine wp_cb ?_ | with_reducible refine wp_m1 ?_ | with_reducible refine rs_T1 ?_ | with_reducible refine rs_T' (by with_unfolding_all rfl) (by with_unfolding_all rfl) ?_ | with_reducible refine wi_list ?_ | with_reducible refine wi_tup ?_ | with_reducible refine wi_str ?_ | with_reducible refine wi_rng1 ?_ | with_reducible refine wi_rng2 ?_ | with_reducible refine wi_zipT ?_ | with_reducible refine wi_zipM ?_ | with_reducible refine wi_enum ?_ | with_reducible refine rd_ib ?_ | with_reducible refine rd_ii ?_ | with_reducible refine rd_inSg ?_ | with_reducible refine rd_mod (by first | assumption | decide) ?_ | with_reducible refine rd_mul (cmul_r (by decide +kernel)) ?_ | with_reducible refine rd_mul (cmul_l (by decide +kernel)) ?_ | with_reducible refine rc_max ?_ | with_reducible refine rc_min ?_ | with_reducible refine rd_eqI ?_ | with_reducible refine rd_neI ?_ | with_reducible refine rd_eqS (by first | assumption | decide +kernel) (by first | assumption | decide +kernel) ?_ | with_reducible refine rd_neS (by first | assumption | decide +kernel) (by first | assumption | decide +kernel) ?_ | with_reducible refine rd_iC (cpow_ok (by with_unfolding_all rfl)) ?_ | with_reducible refine rd_isN' (b := true) (by with_unfolding_all rfl) ?_ | with_reducible refine rd_isN' (b := false) (by with_unfolding_all rfl) ?_ | with_reducible refine rd_notN' (b := true) (by with_unfolding_all rfl) ?_ | with_reducible refine rd_notN' (b := false) (by with_unfolding_all rfl) ?_ | with_reducible refine rc_len (by first | assumption | with_unfolding_all rfl) ?_ | with_reducible refine rd_ixT0 ?_ | with_reducible refine rd_ixL0 ?_ | with_reducible refine rd_ixT (by first | assumption | with_unfolding_all rfl) ?_ | with_reducible refine rd_ixL (by first | assumption | with_unfolding_all rfl) ?_ | with_reducible refine wp_callF ?_ | with_reducible refine rc_tupL ?_ | with_reducible refine rc_strS ?_ | with_reducible refine rc_all ?_ | with_reducible refine L2.iteT ?_ | with_reducible refine ite_dT (by with_unfolding_all exact of_decide_eq_true rfl) ?_ | with_reducible refine ite_dF (by with_unfolding_all exact of_decide_eq_false rfl) ?_ | with_reducible refine ite_ndT (by with_unfolding_all exact of_decide_eq_true rfl) ?_ | with_reducible refine ite_ndF (by with_unfolding_all exact of_decide_eq_false rfl) ?_ | with_reducible refine L2.iteF ?_ | with_reducible refine ite_nt ?_ | with_reducible refine ite_nf ?_ | refine ⟨_, true, rfl, rfl, ?_⟩ | refine ⟨_, false, rfl, rfl, ?_⟩ | with_reducible refine ⟨_, rfl, ?_⟩ | with_reducible refine ⟨_, _, rfl, ?_⟩ | with_reducible refine And.intro (by first | assumption | exact trivial | with_unfolding_all exact of_decide_eq_true rfl) ?_ | with_reducible refine And.intro Mode.Sub.no ?_ | with_reducible refine ⟨_, (by with_unfolding_all rfl), (by with_unfolding_all exact of_decide_eq_true rfl), ?_⟩))
open PySem PySem.Spec PyProof.Rows L2
section
variable {P : Program} {w : World} {K : PySem.W.Frag} {mg : Str → Option Value} {base : Heap}
abbrev N_is_sort : List Str := ["thing", "sort"]
abbrev P_is_sort : List Str := ["thing", "sort"]
theorem sc_is_sort : FnScope N_is_sort P_is_sort (defScope s_is_sort) := ⟨rfl, rfl, rfl, by decide +kernel, rfl, by decide +kernel, by decide +kernel⟩
abbrev sp_is_sort (K : PySem.W.Frag) : Sp := spD K (CN K) (fun _ => Mode.no) (fun p : Part × Str => [.d p.1.D, .d (.str p.2)]) (fun p => p.1.Ok ∧ p.1.Fits p.2 ∧ okS p.2 = true) (fun p y => y = .bool (sortB p.1 p.2)) (fun _ => False)
theorem ok_is_sort (W : Wd w K mg) : FnI P w K mg base 3 (He.ga K "is_sort") (sp_is_sort K) := by
  obtain ⟨fd, F⟩ := W.fd_is_sort
  refine FnI.of F sc_is_sort (fun _ _ _ _ _ _ us hl => match us, hl with | [_, _], _ => rfl) (fun _ _ => rfl) fun cdv A outer s H E hr ⟨p, s0⟩ ⟨h1, h2, h3⟩ => ⟨_, (pss_cons (ps_if (pt_cmpR (opK rEqD K (op_eqD hr.units)) (pv 1) pe_str (nomark _)) (pss_one (ps_ret (pe_callI (ok_is_name_claims W) hr W.g_is_name_claims passL (pa_cons (pv 0) pa_nil)))) pss_nil)
      (pss_one (ps_ret (pe_and (pe_callI (ok_is_whole W) hr W.g_is_whole passL (pa_cons (pv 0) pa_nil)) (pe_and (pe_cmpR op_ge (pv 0) pe_int (nomark _)) (pe_one (pe_or (pe_cmpR (opK rEqD K (op_eqD hr.units)) (pv 1) pe_str (nomark _)) (pe_one (pe_cmpR op_le (pv 0) (pe_gi W.i_MOST_CLAUSE_claims) (nomark _)))))))))), ?_⟩
  have h3 : okS s0 = true := h3
  match p, h1, h2 with
  | .nm p, h1, h2 =>
    have h2 : s0 = "name" := h2
    have h1 : NmOk p := h1
    try dsimp only [cxOf, Cx.blk, Cx.blkE]
    repeat fail "w"
    refine ite_dT h2 ?_
    repeat fail "w"
    rfl
  | .nu i, h1, h2 =>
    have h2 : s0 ≠ "name" := h2
    try dsimp only [cxOf, Cx.blk, Cx.blkE]
    repeat fail "w"
    refine ite_dF h2 ?_
    simp only [Part.D]
    repeat fail "w"
    have e0 : sortB (.nu i) s0 = (decide (0 ≤ i) && (decide (s0 = "time") || decide (i ≤ 11))) := rfl
    refine b_if2 (fun k1 => ?_) (fun k1 => ?_)
    · repeat fail "w"
      refine b_if2 (fun k2 => ?_) (fun k2 => ?_)
      · repeat fail "w"
        rw [e0]
        simp [k1, k2]
      · repeat fail "w"
        rw [e0]
        simp [k1, k2]
    · repeat fail "w"
      rw [e0]
      simp [k1]
abbrev N_is_claim : List Str := ["thing", "sorts", "part", "sort"]
abbrev P_is_claim : List Str := ["thing"]
theorem sc_is_claim : FnScope N_is_claim P_is_claim (defScope s_is_claim) := ⟨rfl, rfl, rfl, by decide +kernel, rfl, by decide +kernel, by decide +kernel⟩
abbrev sp_is_claim (K : PySem.W.Frag) : Sp := spD K (CN K) (fun _ => Mode.no) (fun c : Claim => [.d c.D]) Claim.Ok (fun c y => y = .bool (claimB c)) (fun _ => False)
theorem ok_is_claim (W : Wd w K mg) : FnI P w K mg base 4 (He.ga K "is_claim") (sp_is_claim K) := by
  obtain ⟨fd, F⟩ := W.fd_is_claim
  refine FnI.of F sc_is_claim (fun _ _ _ _ _ _ us hl => match us, hl with | [_], _ => rfl) (fun _ _ => rfl) fun cdv A outer s H E hr ⟨cw, ps⟩ ⟨h1, h2⟩ => ⟨_, (pss_cons (ps_if (PW.pt (pw_or (pt_not (pt_val (pe_callB (callK rIsi K call_isi) rfl W.f_isinstance PyProof.Rows.Boot.«isinstance» (pa_cons (pv 0) (pa_cons (pe_bltn (v := .ty "tuple") rfl W.f_tuple PyProof.Rows.Boot.«tuple» rfl) pa_nil))))) (pw_or (pt_cmpR (opK rEqD K (op_eqD hr.units)) (pe_callB (callK rLenD K call_lenD2) rfl W.f_len PyProof.Rows.Boot.«len» (pa_cons (pv 0) pa_nil)) pe_int (nomark _)) (pw_or (pt_not (pt_val (pe_callB (callK rIsi K call_isi) rfl W.f_isinstance PyProof.Rows.Boot.«isinstance» (pa_cons (pe_ix (ixK rIxT K ix_tup) (pv 0) pe_int (fun _ _ => rfl)) (pa_cons (pe_bltn (v := .ty "str") rfl W.f_str PyProof.Rows.Boot.«str» rfl) pa_nil))))) (pw_or1 (pt_cmpR (op_notKd W) (pe_ix (ixK rIxT K ix_tup) (pv 0) pe_int (fun _ _ => rfl)) (pe_glob (v := .ref (He.ga K "SHAPES")) rfl W.g_SHAPES rfl) (by rfl))))))) (pss_one (ps_ret pe_bl)) pss_nil)
      (pss_cons (ps_set (i := 1) sc_is_claim.nd rfl (Or.inl rfl) (pe_ix ix_kdict (pe_glob (v := .ref (He.ga K "SHAPES")) rfl W.g_SHAPES rfl) (pe_ix (ixK rIxT K ix_tup) (pv 0) pe_int (fun _ _ => rfl)) (fun _ _ => rfl)))
      (pss_one (ps_ret (pe_and (pe_cmpR (opK rEqD K (op_eqD hr.units)) (pe_callB (callK rLenD K call_lenD2) rfl W.f_len PyProof.Rows.Boot.«len» (pa_cons (pv 0) pa_nil)) (pe_op op_add pe_int (pe_callB (callK rLenD K call_lenD2) rfl W.f_len PyProof.Rows.Boot.«len» (pa_cons (pv 1) pa_nil))) (nomark _)) (pe_one (pe_callB (callK rAll K (cr_all rfl)) rfl W.f_all PyProof.Rows.Boot.«all» (pa_cons (pe_lc (own := [("part", 2), ("sort", 3)]) (tt := tYes) rfl sc_is_claim.nd (RZ.pi_zipA rfl W.f_zip (pa_cons (pe_slice (slK rSlT K sl_tup) (pv 0) (po_some pe_int) po_none) (pa_cons (pv 1) pa_nil))) (blkOk_by (own := [("part", 2), ("sort", 3)]) (N := N_is_claim) (sc := defScope s_is_claim) (by decide +kernel)) (fun _ _ _ _ _ => (pg_tupK 2 K rfl (pgs_cons (pg_name (i := 2) sc_is_claim.nd rfl (Or.inl rfl)) (pgs_cons (pg_name (i := 3) sc_is_claim.nd rfl (Or.inl rfl)) pgs_nil)))) (fun _ _ _ _ _ => pts_nil) (fun _ _ _ _ _ => (pe_callI (ok_is_sort W) hr W.g_is_sort passL (pa_cons (pv 2) (pa_cons (pv 3) pa_nil))))) pa_nil)))))))), ?_⟩
  have h1 : (cw, ps.map (·.2)) ∈ shapes := h1
  have h2 : ∀ p ∈ ps, p.1.Ok ∧ p.1.Fits p.2 := h2
  obtain ⟨o1, o2, o3, o4⟩ := shapes_ok h1
  have hpl : ps.length ≤ 3 := by rw [List.length_map] at o3; exact o3
  simp only [Claim.D]
  try dsimp only [cxOf, Cx.blk, Cx.blkE]
  repeat fail "w"
  refine rd_notSh W h1 ?_
  repeat fail "w"
  refine rd_ixSh W h1 ?_
  repeat fail "w"
  have hl : (ps.map fun p => p.1.D).length = ((ps.map (·.2)).map PyData.str).length := by simp
  refine ite_dT (by simp; omega) ?_
  repeat fail "w"
  refine wp_lcG (γ := Part × Str) (fun p => pairD (p.1.D, .str p.2)) (fun p => .bool (sortB p.1 p.2)) (fun ⟨a, b⟩ ⟨c, d⟩ e => ?_) ?_
  · have e := PyData.tuple.inj e
    simp at e
    rw [Part.D_inj a c e.1, e.2]
  · repeat fail "w"
    refine ⟨ps, by show List.map Dv.d (List.map pairD ((ps.map fun p => p.1.D).zip ((ps.map (·.2)).map PyData.str))) = _; rw [show (ps.map (·.2)).map PyData.str = ps.map (fun p => PyData.str p.2) from by rw [List.map_map]; rfl, zip_both, List.map_map, List.map_map]; rfl, by omega, fun p hp => ⟨_, tgt_tup (.cons _ (.cons _ .nil)) (by decide) rfl rfl, ?_⟩, ?_⟩
    · obtain ⟨p1, p2⟩ := h2 p hp
      have p3 : okS p.2 = true := o2 p.2 (List.mem_map.mpr ⟨p, hp, rfl⟩)
      repeat fail "w"
      refine ⟨⟨p1, p2, p3⟩, ?_⟩
      repeat fail "w"
      rfl
    · repeat fail "w"
      have e : ps.map (fun p => PyData.bool (sortB p.1 p.2)) = (ps.map fun p => sortB p.1 p.2).map PyData.bool := by rw [List.map_map]; rfl
      rw [e]
      repeat fail "w"
      rw [List.all_map]
      rfl
end
end K84

/-! part K84Y -/
set_option maxHeartbeats 2000000
/-! K84Y: .get of a dict of the module. -/
namespace K84
open PySem PySem.Spec PyProof.Rows L2
def tKGet (K : PySem.W.Frag) (w : World) (td ty tx : TE) : TE := fun σ H Q => td σ H fun x H1 => ∃ a es n, x = .ref a ∧ KDict K w a es n ∧ ty σ H1 fun y H2 => tx σ H2 fun z H3 =>
  ∃ (s : Str) (r : Option Value), y = .str s ∧ PySem.W.nsIn K a s = some r ∧ ((r = none ∧ Q z H3) ∨ ∃ u v, r = some u ∧ RelV v u ∧ Q v H3)
theorem pe_kget0 {X : Cx} {o e f : Expr} {apos cpos : Pos} {td ty tx : TE} (ho : PE X o td) (he : PE X e ty) (hf : PE X f tx) (m : M2 X o "get" apos e f cpos) : PE X (.Call (.Attribute o "get" apos) [e, f] [] cpos) (tKGet X.K X.w td ty tx) := by
  refine ⟨fun pins s σ H Q I h => wpAny_Call_method m.base m.few m.line PySem.F.plainAttrs_dict PySem.F.slot_dict_get PySem.F.type_dict_get (thn (ho.run pins s σ H _ I h) fun u s1 ⟨x, H1, I1, rx, q1⟩ => ?_)⟩
  obtain ⟨a, es, n, rfl, D, q1⟩ := q1
  obtain rfl : u = Value.ref a := rx
  have hM := PySem.W.mapOf_K (prog := X.prog) (w := X.w) I1.kIn D.at_ D.lit
  refine ⟨hM.typeIs, fun b eb => ?_, ?_⟩
  · cases eb
    exact ⟨_, I1.kIn _ _ D.at_, rfl⟩
  rw [m.trees]
  refine Calls.callWith_builtin rfl (Calls.evalArgs_plain (Calls.spliced_cons (thn (he.run pins s1 σ H1 _ I1 q1) fun iv s2 ⟨y, H2, I2, ry, q2⟩ => Calls.spliced_cons (thn (hf.run pins s2 σ H2 _ I2 q2) fun fv s3 ⟨z, H3, I3, rz, q3⟩ => Calls.spliced_nil ?_))))
  obtain ⟨k, r, rfl, hn, q3⟩ := q3
  obtain ⟨t, rfl⟩ := (show ∃ t, iv = Value.str k t from ry)
  have hM3 := PySem.W.mapOf_K (prog := X.prog) (w := X.w) I3.kIn D.at_ D.lit
  refine call_meetsIn PySem.F.slot_dict_get hM3.typeIs PySem.F.entry_dict_get (PySem.F.args_dict_get_3 _ _ _) (meets_dict_get_default (PySem.strKind X.prog X.w) a (PySem.strKind_is X.prog X.w k t) D.low fv) ⟨_, hM3, ?_⟩
  rw [PySem.W.find_K D.at_ hn]
  rcases q3 with ⟨rfl, q⟩ | ⟨u, v, rfl, rv, q⟩
  · exact ⟨z, H3, I3.tok _, rz, q⟩
  · exact ⟨v, H3, I3.tok _, rv, q⟩
theorem pe_kget {X : Cx} {o e f : Expr} {apos cpos : Pos} {td ty tx : TE} (K : PySem.W.Frag) (w : World) (ho : PE X o td) (he : PE X e ty) (hf : PE X f tx)
    (hb : attributeBase o "get" X.env (eval o X.env) = eval o X.env := by rfl)
    (hw : ((backTo cpos (starEach [e, f] X.env)).all (fun x => !x.1) && (backToKw cpos (keywordEach [] X.env)).all (fun x => x.1.isSome) && decide (([e, f] : List Expr).length + ([] : List Keyword).length + (if ([] : List Keyword).isEmpty then 0 else 1) < 30)) = true := by rfl)
    (hl : (apos.endLine == cpos.line) = true := by rfl) (ht : backTo cpos (starEach [e, f] X.env) = [(false, eval e X.env), (false, eval f X.env)] := by rfl) (eK : X.K = K := by rfl) (ew : X.w = w := by rfl) :
    PE X (.Call (.Attribute o "get" apos) [e, f] [] cpos) (tKGet K w td ty tx) := by
  subst eK
  subst ew
  exact pe_kget0 ho he hf ⟨hb, hw, hl, ht⟩
theorem wp_kget {Γ : Ctx} {w : World} {mg : Str → Option Value} {td ty tx : TE} {ss : Sd} {k : Dv → Prop} {x : Prop} (W : Wd w Γ.K mg)
    (h : Wp Γ td ss (fun a => a = .r (He.ga Γ.K "SHAPES") ∧ Wp Γ ty ss (fun b => ∃ z, b = .d (.str z) ∧ Wp Γ tx ss (fun c => c = .d .none ∧ (∀ q ∈ shapes, q.1 = z → k (.d (.tuple (q.2.map PyData.str)))) ∧ ((∀ q ∈ shapes, q.1 ≠ z) → k (.d .none))) x) x) x) :
    Wp Γ (tKGet Γ.K w td ty tx) ss k x := fun Pr G H σ v s Q hq hx =>
  h Pr G H σ v s _ (fun d u G1 H1 ⟨ed, h1⟩ g1 r1 => by
    subst ed
    have r1' : u = .ref (He.ga Γ.K "SHAPES") := r1
    obtain ⟨es, n, D⟩ := W.shapesK
    refine ⟨_, es, n, r1', D, ?_⟩
    refine h1 Pr G1 H1 σ g1.vw (s.mono g1.g) _ (fun d2 u2 G2 H2 ⟨z, ed, h2⟩ g2 r2 => ?_) (hx.on g1.h)
    subst ed
    cases r2
    refine h2 Pr G2 H2 σ g2.vw (s.mono (g1.trans g2).g) _ (fun d3 u3 G3 H3 ⟨ed, ha, hb⟩ g3 r3 => ?_) (hx.on (g1.trans g2).h)
    subst ed
    have g := (g1.trans g2).trans g3
    by_cases hz : ∃ q ∈ shapes, q.1 = z
    · obtain ⟨q, hq', e⟩ := hz
      subst e
      obtain ⟨s1, s2⟩ := W.shape hq'
      exact ⟨_, _, rfl, s1, .inr ⟨_, .ref (shapeAt Γ.K q.1), rfl, rfl, hq _ _ G3 H3 (ha q hq' rfl) g (dqT_of s2)⟩⟩
    · have hno : ∀ q ∈ shapes, q.1 ≠ z := fun q hq' e => hz ⟨q, hq', e⟩
      exact ⟨_, none, rfl, W.noShape hno, .inl ⟨rfl, hq _ _ G3 H3 (hb hno) g r3⟩⟩) hx
end K84

/-! part K84Z -/
set_option maxHeartbeats 2000000
/-! K84Z: zip of a list and a tuple. -/
namespace K84
open PySem PySem.Spec PyProof.Rows L2
theorem drawsT {prog : Program} {w : World} {A : Around} (hh : A.handled = none) (j l : Addr) (ne : l ≠ j) (vs : Array Value) : Draws prog w A j [j, l] vs.size (fun i v => vs[i]? = some v) (fun i h => h.IsTupleIter j l i ∧ h.IsTuple l vs) :=
  ⟨fun i h ⟨⟨o, e, _⟩, _⟩ => ⟨o, e⟩, fun i h h' ⟨s1, s2⟩ k => ⟨s1.at fun o e => k j (by simp) o e, s2.at fun o e => k l (by simp) o e⟩,
    fun i s Q E hi ⟨s1, s2⟩ hQ => RZ.nextOf_tuple_item s1 s2 (Array.getElem?_eq_getElem hi) fun h' t1 sb => hQ _ h' s.toks (Array.getElem?_eq_getElem hi) ⟨t1, s2.extBut sb.extBut ne⟩ sb,
    fun s Q E ⟨s1, s2⟩ hE => RZ.nextOf_tuple_end hh s1 s2 (by simp) hE⟩
section
variable {z TI TO i1 i2 a b : Addr}
theorem sep_of (D : ZipApart z TI TO i1 i2 a b) : ZipSep2 z TI TO i1 i2 [i1, a] [i2, b] where
  TIz := D.TIz
  TOz := D.TOz
  TITO := D.TITO
  TIi1 := D.TIi1
  TIi2 := D.TIi2
  mem1 := by simp
  mem2 := by simp
  zf1 := by simp [D.i1z.symm, D.l1z.symm]
  zf2 := by simp [D.i2z.symm, D.l2z.symm]
  Tf1 := by simp [D.TOi1, D.l1TO.symm]
  Tf2 := by simp [D.TOi2, D.l2TO.symm]
  sep1_2 := by simp [D.i12, D.l2i1.symm]
  sep2_1 := by simp [D.i12.symm, D.l1i2.symm]
/-- the list at a, the tuple at b, of these lengths -/
def Jm (K : PySem.W.Frag) (a b : Addr) (n m : Nat) : It :=
  ⟨fun i H => ∃ (xs ys : List V) (x y : V), (SqL K H a xs ∧ xs.length = n) ∧ (SqT K H b ys ∧ ys.length = m) ∧ xs[i]? = some x ∧ ys[i]? = some y,
    fun i H v H' => ∃ T x y, (v = .ref T ∧ H T = none) ∧ H' = upd H T (.tup [x, y]) ∧ (∀ xs, SqL K H a xs → xs[i]? = some x) ∧ ∀ ys, SqT K H b ys → ys[i]? = some y,
    fun i H => ∃ xs ys : List V, (SqL K H a xs ∧ xs.length = n) ∧ (SqT K H b ys ∧ ys.length = m) ∧ (n ≤ i ∨ m ≤ i)⟩
/-- the five objects of such a zip -/
structure Zst (z TI TO i1 i2 a b : Addr) (n m i : Nat) (h : Heap) : Prop where
  zz : IsZip h z TI TO .none
  ti : IsPair h TI (.ref i1) (.ref i2)
  to : ∃ x y, IsPair h TO x y
  l : h.IsListIter i1 a i
  t : h.IsTupleIter i2 b i
  n : i ≤ n
  m : i ≤ m
theorem zst_mem {c : Addr} (h : c ∈ [z, TI, TO, i1, i2]) : c = z ∨ c = TI ∨ c = TO ∨ c = i1 ∨ c = i2 := by simpa using h
theorem zst_live {n m i : Nat} {h : Heap} {c : Addr} (st : Zst z TI TO i1 i2 a b n m i h) (hc : c ∈ [z, TI, TO, i1, i2]) : ∃ o, h.get? c = some o ∧ ∀ v, o.data ≠ .cell v := by
  obtain ⟨x, y, to⟩ := st.to
  obtain ⟨o1, e1, _, d1⟩ := st.l
  obtain ⟨o2, e2, _, d2⟩ := st.t
  rcases zst_mem hc with rfl | rfl | rfl | rfl | rfl
  · exact ⟨_, st.zz, fun _ q => nomatch q⟩
  · exact ⟨_, st.ti, fun _ q => nomatch q⟩
  · exact ⟨_, to, fun _ q => nomatch q⟩
  · exact ⟨o1, e1, fun _ q => nomatch d1.symm.trans q⟩
  · exact ⟨o2, e2, fun _ q => nomatch d2.symm.trans q⟩
theorem turnM {P : Program} {w : World} {K : PySem.W.Frag} {es : List Expr} {kk : Nat} {tp : Pos} {n m : Nat} (D : ZipApart z TI TO i1 i2 a b) :
    Turn P w K (.Tuple es kk tp) (Jm K a b n m) [z, TI, TO, i1, i2] z (Zst z TI TO i1 i2 a b n m) := by
  refine ⟨by simp, fun i h st c hc => zst_live st hc, fun i h h' st k => ?_, ?_, ?_, fun A i s Q E st q => wpAny_pyIter_zip st.zz q⟩
  · obtain ⟨x, y, to⟩ := st.to
    exact ⟨k z (by simp) _ st.zz, k TI (by simp) _ st.ti, ⟨x, y, k TO (by simp) _ to⟩, st.l.at fun o q => k i1 (by simp) o q, st.t.at fun o q => k i2 (by simp) o q, st.n, st.m⟩
  · rintro X rfl rfl rfl hc i pins s σ H E I hf st ⟨xs, ys, x, y, ⟨qx, lx⟩, ⟨qy, ly⟩, hx, hy⟩
    obtain ⟨us, ru, pu, _⟩ := I.list qx
    obtain ⟨vs, rv, pv, _⟩ := I.tuple qy
    obtain ⟨u, hu, rux⟩ := ru.get hx
    obtain ⟨v, hv, rvy⟩ := rv.get hy
    have hh : X.A.in1.handled = none := I.ok.hd hc
    obtain ⟨x0, y0, to⟩ := st.to
    have n1 : i < us.toArray.size := by
      have := (List.getElem?_eq_some_iff.mp hu).1
      simpa using this
    have n2 : i < vs.toArray.size := by
      have := (List.getElem?_eq_some_iff.mp hv).1
      simpa using this
    have nlt : i < n := by have := (List.getElem?_eq_some_iff.mp hx).1; omega
    have mlt : i < m := by have := (List.getElem?_eq_some_iff.mp hy).1; omega
    refine wpAny_pyNext_zipD2_item (sep_of D) (Draws.list hh i1 a D.l1i1 us.toArray) (drawsT hh i2 b D.l2i2 vs.toArray) st.zz st.ti to ⟨st.l, pu.isList⟩ ⟨st.t, pv⟩ n1 n2 fun u' v' h1 tk eu ev z1 t1 s1 s2 hT hsz hk => ?_
    have eu' : u' = u := by
      have e : us.toArray[i]? = some u := by simpa using hu
      rw [e] at eu
      exact (Option.some.inj eu).symm
    have ev' : v' = v := by
      have e : vs.toArray[i]? = some v := by simpa using hv
      rw [e] at ev
      exact (Option.some.inj ev).symm
    subst eu' ev'
    refine ⟨_, rfl, wpAny_letOwnedTupleGo_zip (s := { s with heap := h1, toks := tk }) z1 fun h2 z2 sb => ?_⟩
    have zl : z < s.heap.objs.size := Heap.lt_size st.zz
    have hT2 : h2.get? s.heap.objs.size = some { cls := .type "tuple", data := .seq #[u', v'] } := sb.extBut _ _ (Nat.ne_of_gt zl) hT
    have kk : ∀ c o, c ∉ [z, TI, TO, i1, i2] → s.heap.get? c = some o → h2.get? c = some o := fun c o hb q => by
      simp at hb
      exact sb.extBut _ _ hb.1 (hk c o hb.1 hb.2.2.1 hb.2.2.2.1 hb.2.2.2.2 q)
    have I2 : Inv X pins σ (upd H s.heap.objs.size (.tup [x, y])) { s with heap := h2, toks := tk } :=
      I.turnedNew kk hf (Nat.le_refl _) ⟨by show 2 ≤ sizeLine; decide, [u', v'], .cons rux (.cons rvy .nil), ⟨_, hT2, rfl, _, rfl⟩⟩
    refine ⟨.ref s.heap.objs.size, _, I2, rfl, ⟨_, x, y, ⟨rfl, I.hok.fresh (Nat.le_refl _)⟩, rfl, fun l q => I.list_inj q qx ▸ hx, fun l q => I.tuple_inj q qy ▸ hy⟩,
      ⟨z2, sb.extBut _ _ D.TIz (hk _ _ D.TIz D.TITO D.TIi1 D.TIi2 st.ti), ⟨u', v', sb.extBut _ _ D.TOz t1⟩, s1.1.at fun o q => sb.extBut _ _ D.i1z q, s2.1.at fun o q => sb.extBut _ _ D.i2z q, nlt, mlt⟩, fun c hcm => ?_⟩
    obtain ⟨o, e, _⟩ := zst_live st hcm
    rw [upd_ne (Nat.ne_of_lt (Heap.lt_size e))]
    exact (hf c hcm).1
  · rintro X rfl rfl rfl hc i pins s σ H E I hf st ⟨xs, ys, ⟨qx, lx⟩, ⟨qy, ly⟩, hend⟩
    obtain ⟨us, ru, pu, _⟩ := I.list qx
    obtain ⟨vs, rv, pv, _⟩ := I.tuple qy
    have hh : X.A.in1.handled = none := I.ok.hd hc
    obtain ⟨x0, y0, to⟩ := st.to
    have e1 : us.toArray.size = n := by rw [List.size_toArray, ← ru.length, lx]
    have e2 : vs.toArray.size = m := by rw [List.size_toArray, ← rv.length, ly]
    have := st.n
    have := st.m
    refine wpAny_pyNext_zipD2_end (sep_of D) (Draws.list hh i1 a D.l1i1 us.toArray) (drawsT hh i2 b D.l2i2 vs.toArray) st.zz st.ti to ⟨st.l, pu.isList⟩ ⟨st.t, pv⟩ (by omega) (by omega) (by omega) fun h1 tk hk => ?_
    exact ⟨rfl, I.turnedL (fun c o hb q => by
      simp at hb
      exact hk c o hb.1 hb.2.2.1 hb.2.2.2.1 hb.2.2.2.2 q) hf⟩
end
/-! the making of it -/
abbrev m1 (h : Heap) (a : Addr) : Heap := h.push { cls := .type "list_iterator", data := .fields #[.ref a, .int 0 0] }
abbrev m2 (h : Heap) (a b : Addr) : Heap := (m1 h a).push { cls := .type "tuple_iterator", data := .fields #[.ref b, .int 0 0] }
abbrev m3 (h : Heap) (a b : Addr) : Heap := (m2 h a b).push { cls := .type "tuple", data := .seq #[.ref h.objs.size, .ref (m1 h a).objs.size] }
abbrev m4 (h : Heap) (a b : Addr) : Heap := (m3 h a b).push { cls := .type "tuple", data := .seq #[.none, .none] }
abbrev m5 (h : Heap) (a b : Addr) : Heap := (m4 h a b).push { cls := .type "zip", data := .fields #[.none, .bool false, .bool false, .ref (m2 h a b).objs.size, .ref (m3 h a b).objs.size] }
theorem meets_m (a b : Addr) (us vs : Array Value) : Meets (Builtin.«zip.__new__» ⟨[.type "zip", .ref a, .ref b], []⟩) (fun _ R s => s.heap.IsList a us ∧ s.heap.IsTuple b vs ∧ R (.ok (.ret (.ref (m4 s.heap a b).objs.size))) { s with heap := m5 s.heap a b }) :=
  .of_wp fun prog w A R ⟨hp, g, d, tk, os⟩ ⟨pa, pb, h⟩ => by
    have k0 := sub_zip
    have ka : Heap.IsList (Shared.heap ⟨hp, g, d, tk, os⟩) a us := pa
    have kb : Heap.IsTuple (Shared.heap ⟨m1 hp a, g, d, tk, os⟩) b vs := Heap.IsTuple.push pb _
    wp_walk using wpAny_pyIter_list ka, wpAny_pyIter_tuple kb
    exact ⟨_, rfl, h⟩
theorem call_m {prog : Program} {w : World} {A : Around} {E : Value → Shared → Prop} {s : Shared} {a b : Addr} {us vs : Array Value} {Q : Value → Shared → Prop} {n m : Nat} (pa : s.heap.IsList a us) (pb : s.heap.IsTuple b vs)
    (h : ∀ h', Zst (s.heap.objs.size + 4) (s.heap.objs.size + 2) (s.heap.objs.size + 3) s.heap.objs.size (s.heap.objs.size + 1) a b n m 0 h' → (∀ c o, s.heap.get? c = some o → h'.get? c = some o) → Q (.ref (s.heap.objs.size + 4)) { s with heap := h' }) :
    wpAny (model prog w) A (call (.type "zip") [.ref a, .ref b]) Q E s := by
  refine callType_new F.called_zip (by decide) (F.typeCall_zip_2 _ _) (F.newCall_zip_2 _ _) (fun obj => F.args_object_init_3 obj _ _) F.entry_zip_new (meets_m a b us vs) ⟨pa, pb, ?_⟩
  have z1 : (m1 s.heap a).objs.size = s.heap.objs.size + 1 := Heap.size_push ..
  have z2 : (m2 s.heap a b).objs.size = s.heap.objs.size + 2 := (Heap.size_push ..).trans (congrArg (· + 1) z1)
  have z3 : (m3 s.heap a b).objs.size = s.heap.objs.size + 3 := (Heap.size_push ..).trans (congrArg (· + 1) z2)
  have z4 : (m4 s.heap a b).objs.size = s.heap.objs.size + 4 := (Heap.size_push ..).trans (congrArg (· + 1) z3)
  have up : ∀ {c o}, s.heap.get? c = some o → (m5 s.heap a b).get? c = some o := fun q =>
    Heap.get?_push_of_some _ (Heap.get?_push_of_some _ (Heap.get?_push_of_some _ (Heap.get?_push_of_some _ (Heap.get?_push_of_some _ q))))
  have g1 : (m5 s.heap a b).get? s.heap.objs.size = some _ := Heap.get?_push_of_some _ (Heap.get?_push_of_some _ (Heap.get?_push_of_some _ (Heap.get?_push_of_some _ (Heap.get?_push_size s.heap rfl))))
  have g2 : (m5 s.heap a b).get? (m1 s.heap a).objs.size = some _ := Heap.get?_push_of_some _ (Heap.get?_push_of_some _ (Heap.get?_push_of_some _ (Heap.get?_push_size (m1 s.heap a) rfl)))
  have g3 : (m5 s.heap a b).get? (m2 s.heap a b).objs.size = some _ := Heap.get?_push_of_some _ (Heap.get?_push_of_some _ (Heap.get?_push_size (m2 s.heap a b) rfl))
  have g4 : (m5 s.heap a b).get? (m3 s.heap a b).objs.size = some _ := Heap.get?_push_of_some _ (Heap.get?_push_size (m3 s.heap a b) rfl)
  have g5 : (m5 s.heap a b).get? (m4 s.heap a b).objs.size = some _ := Heap.get?_push_size (m4 s.heap a b) rfl
  rw [z1] at g2
  rw [z1, z2] at g3
  rw [z3] at g4
  rw [z2, z3, z4] at g5
  show _ ∧ _
  rw [z4]
  exact ⟨⟨_, g5, rfl⟩, h _ ⟨g5, g3, ⟨_, _, g4⟩, ⟨_, g1, rfl, rfl⟩, ⟨_, g2, rfl, rfl⟩, Nat.zero_le _, Nat.zero_le _⟩ fun c o q => up q⟩
def iZipM (K : PySem.W.Frag) (ta : TA) : TI := fun σ H R => ta σ H fun vs H1 => ∃ a b xs ys, vs = [.ref a, .ref b] ∧ SqL K H1 a xs ∧ SqT K H1 b ys ∧ R (Jm K a b xs.length ys.length) H1
theorem pi_zipM0 {X : Cx} {e e2 : Expr} {ta : TA} {p pos tp : Pos} {es : List Expr} {kk : Nat} (hg : Gl X "zip") (hm : X.mg "zip" = none) (ha : PA X [e, e2] ta)
    (hs : starEach [e, e2] X.env = (false, eval e X.env) :: starEach [e2] X.env := by rfl) (hpl : (backTo pos (starEach [e2] X.env)).any (·.1) = false := by rfl) : PI X (.Tuple es kk tp) (.Call (.Name "zip" p) [e, e2] [] pos) (iZipM X.K ta) := by
  refine ⟨fun pins s σ H R I h => Call_ (ld_blt I hg hm PyProof.Rows.boot_zip (PyProof.Rows.callWith_type1 (thn (ha.run pos pins s σ H _ I h) fun us s1 ⟨vs, H1, I1, r1, q1⟩ => ?_) hs hpl))⟩
  obtain ⟨a, b, xs, ys, rfl, hx, hy, q⟩ := q1
  obtain ⟨u1, u2, rfl, r, r'⟩ := r1.two
  cases r
  cases r'
  obtain ⟨l1, rv, p1, _⟩ := I1.list hx
  obtain ⟨l2, rv2, p2, _⟩ := I1.tuple hy
  obtain ⟨o2, ho2, _⟩ := id p2
  refine call_m (n := xs.length) (m := ys.length) p1.isList (show s1.heap.IsTuple b l2.toArray from p2) fun h' st hk => wpAny_pyIter_zip st.zz ?_
  have I2 : Inv X pins σ H1 { s1 with heap := h' } := I1.kept (t' := s1.toks) hk
  refine ⟨_, _, _, _, H1, rfl, I2, turnM (PySem.W.ktu_apart s1.heap.objs.size a b p1.lt (Heap.lt_size ho2)), st, fun c hc => ?_, q⟩
  have hle : s1.heap.objs.size ≤ c := by
    rcases zst_mem hc with e | e | e | e | e <;> (rw [e]; omega)
  exact I1.fpOk hle (I1.hok.fresh hle)
theorem pi_zipM {X : Cx} {e e2 : Expr} {ta : TA} {p pos tp : Pos} {es : List Expr} {kk : Nat} (K : PySem.W.Frag) (hg : Gl X "zip") (hm : X.mg "zip" = none) (ha : PA X [e, e2] ta)
    (hs : starEach [e, e2] X.env = (false, eval e X.env) :: starEach [e2] X.env := by rfl) (hpl : (backTo pos (starEach [e2] X.env)).any (·.1) = false := by rfl) (eK : X.K = K := by rfl) : PI X (.Tuple es kk tp) (.Call (.Name "zip" p) [e, e2] [] pos) (iZipM K ta) := eK ▸ pi_zipM0 hg hm ha hs hpl
section
variable {Γ : Ctx} {ss : Sd} {k : List Dv → Prop} {x : Prop} {ta : TA}
theorem wi_zipM (h : WpA Γ ta ss (fun as => ∃ xs ys, as = [.d (.list xs), .d (.tuple ys)] ∧ k (((xs.zip ys).map pairD).map Dv.d)) x) : WpI Γ (iZipM Γ.K ta) ss k x := fun Pr G H σ v s R hr hx =>
  h Pr G H σ v s _ (fun as vs G1 H1 ⟨xs, ys, ea, hk⟩ g rs => by
    subst ea
    cases rs with
    | @cons v1 _ _ _ r t =>
      cases t with
      | @cons v2 _ _ _ r' t =>
        cases t
        have r1 : Dq Γ.K G1 v1 (.list xs) := r
        have r2 : Dq Γ.K G1 v2 (.tuple ys) := r'
        cases r1 with
        | @lst a us _ hs ha =>
          cases r2 with
          | @tup b ws _ ht hb =>
            have l1 := dqAll_length ha
            have l2 := dqAll_length hb
            have sL : ∀ {H2 : Hp}, Same G1 H2 → SqL Γ.K H2 a us := fun s2 => SqL.of (s2 _ _ hs)
            refine ⟨a, b, us, ws, rfl, sL g.vw.sm, sqt_mono g.vw.sm ht, hr _ _ G1 H1 hk g fun H2 s2 i => ⟨fun hi => ?_, fun hi => ?_, fun d v' H' hd hy => .inr ?_⟩⟩
            · rw [List.length_map, List.length_map, List.length_zip] at hi
              exact ⟨us, ws, us[i]'(by omega), ws[i]'(by omega), ⟨sL s2, rfl⟩, ⟨sqt_mono s2 ht, rfl⟩, List.getElem?_eq_getElem (by omega), List.getElem?_eq_getElem (by omega)⟩
            · rw [List.length_map, List.length_map, List.length_zip] at hi
              exact ⟨us, ws, ⟨sL s2, rfl⟩, ⟨sqt_mono s2 ht, rfl⟩, by omega⟩
            · obtain ⟨T, u, w, ⟨ev, hT⟩, eH, f1, f2⟩ := hy
              obtain ⟨da, db, h1, h2, ed⟩ := get_zip hd
              subst ed ev
              obtain ⟨z1, e1, q1⟩ := dqAll_get ha h1
              obtain ⟨z2, e2, q2⟩ := dqAll_get hb h2
              have g1 := f1 us (sL s2)
              have g2 := f2 ws (sqt_mono s2 ht)
              rw [e1] at g1
              rw [e2] at g2
              cases g1
              cases g2
              exact ⟨T, _, hT, eH, fun G e n => pair_dq e n q1 q2⟩) hx
end
end K84

/-! part K84D9 -/
set_option maxHeartbeats 1000000
/-! K84D9: claim_part, read_claim. -/
namespace K84
local macro_rules | `(tactic| fail "w") => `(tactic| (first | with_reducible refine wp_neg ?_ | with_reducible refine wp_pick ?_ | with_reducible refine wp_draw ?_ | with_reducible refine ws_seq ?_ | with_reducible refine ws_nx ?_ | with_reducible refine ws_set ?_ | with_reducible refine ws_ret ?_ | with_reducible refine ws_if ?_ | with_reducible refine ws_drop ?_ | with_reducible refine wt_or ?_ | with_reducible refine wt_and ?_ | with_reducible refine wt_not ?_ | with_reducible refine wt_B ?_ | with_reducible refine wt_test ?_ | with_reducible refine wp_chain ?_ | with_reducible refine wp_andV ?_ | with_reducible refine wp_orV ?_ | with_reducible refine wp_notV ?_ | with_reducible refine wp_if ?_ | with_reducible refine wp_int ?_ | with_reducible refine wp_var (by with_unfolding_all rfl) ?_ | with_reducible refine wp_str ?_ | with_reducible refine wp_bl ?_ | with_reducible refine wp_non ?_ | with_reducible refine wp_ref ?_ | with_reducible refine wp_op ?_ | with_reducible refine wp_tup' ?_ | with_reducible refine wp_lst' ?_ | with_reducible refine wa_cons ?_ | with_reducible refine wa_nil ?_ | with_reducible refine wp_sl ?_ | with_reducible refine wo_none ?_ | with_reducible refine wo_some ?_ | with_reducible refine wp_isi' (by simp) ?_ | with_reducible refine wp_allIn (by with_unfolding_all rfl) (by assumption) (by with_unfolding_all exact of_decide_eq_true rfl) (by with_unfolding_all rfl) ?_ | with_reducible refine wp_cb ?_ | with_reducible refine wp_m1 ?_ | with_reducible refine rs_T1 ?_ | with_reducible refine rs_T' (by with_unfolding_all rfl) (by with_unfolding_all rfl) ?_ | with_reducible refine wi_list ?_ | with_reducible refine wi_tup ?_ | with_reducible refine wi_str ?_ | with_reducible refine wi_rng1 ?_ | with_reducible refine wi_rng2 ?_ | with_reducible refine wi_zipT ?_ | with_reducible refine wi_zipM ?_ | with_reducible refine wi_enum ?_ | with_reducible refine rd_ib ?_ | with_reducible refine rd_ii ?_ | with_reducible refine rd_inSg ?_ | with_reducible refine rd_mod (by first | assumption | decide) ?_ | with_reducible refine rd_mul (cmul_r (by decide +kernel)) ?_ | with_reducible refine rd_mul (cmul_l (by decide +kernel)) ?_ | with_reducible refine rc_max ?_ | with_reducible refine rc_min ?_ | with_reducible refine rd_eqI ?_ | with_reducible refine rd_neI ?_ | with_reducible refine rd_eqS (by first | assumption | decide +kernel) (by first | assumption | decide +kernel) ?_ | with_reducible refine rd_neS (by first | assumption | decide +kernel) (by first | assumption | decide +kernel) ?_ | with_reducible refine rd_iC (cpow_ok (by with_unfolding_all rfl)) ?_ | with_reducible refine rd_isN' (b := true) (by with_unfolding_all rfl) ?_ | with_reducible refine rd_isN' (b := false) (by with_unfolding_all rfl) ?_ | with_reducible refine rd_notN' (b := true) (by with_unfolding_all rfl) ?_ | with_reducible refine rd_notN' (b := false) (by with_unfolding_all rfl) ?_ | with_reducible refine rc_len (by first | assumption | with_unfolding_all rfl) ?_ | with_reducible refine rd_ixT0 ?_ | with_reducible refine rd_ixL0 ?_ | with_reducible refine rd_ixT (by first | assumption | with_unfolding_all rfl) ?_ | with_reducible refine rd_ixL (by first | assumption | with_unfolding_all rfl) ?_ | with_reducible refine wp_callF ?_ | with_reducible refine rc_tupL ?_ | with_reducible refine rc_strS ?_ | with_reducible refine rc_all ?_ | with_reducible refine L2.iteT ?_ | with_reducible refine ite_dT (by with_unfolding_all exact of_decide_eq_true rfl) ?_ | with_reducible refine ite_dF (by with_unfolding_all exact of_decide_eq_false rfl) ?_ | with_reducible refine ite_ndT (by with_unfolding_all exact of_decide_eq_true rfl) ?_ | with_reducible refine ite_ndF (by with_unfolding_all exact of_decide_eq_false rfl) ?_ | with_reducible refine L2.iteF ?_ | with_reducible refine ite_nt ?_ | with_reducible refine ite_nf ?_ | refine ⟨_, true, rfl, rfl, ?_⟩ | refine ⟨_, false, rfl, rfl, ?_⟩ | with_reducible refine ⟨_, rfl, ?_⟩ | with_reducible refine ⟨_, _, rfl, ?_⟩ | with_reducible refine And.intro (by first | assumption | exact trivial | with_unfolding_all exact of_decide_eq_true rfl) ?_ | with_reducible refine And.intro Mode.Sub.no ?_ | with_reducible refine ⟨_, (by with_unfolding_all rfl), (by with_unfolding_all exact of_decide_eq_true rfl), ?_⟩))
open PySem PySem.Spec PyProof.Rows L2
def partOf (z s : Str) : Option Part := if s = "name" then (nameOf z).map .nm else (numB z).map .nu
def partsOf (r ss : List Str) : Option (List (Part × Str)) := (r.zip ss).mapM fun p => (partOf p.1 p.2).map fun t => (t, p.2)
def readC : List Str → Option Claim
  | [] => none
  | c :: r => match shapes.find? (fun q => decide (q.1 = c)) with
    | none => none
    | some q => if r.length = q.2.length then (partsOf r q.2).bind fun ps => if claimB ⟨c, ps⟩ = true then some ⟨c, ps⟩ else none else none
theorem shapes_find {q : Str × List Str} (h : q ∈ shapes) : shapes.find? (fun x => decide (x.1 = q.1)) = some q := by
  have e : ∀ q ∈ shapes, shapes.find? (fun x => decide (x.1 = q.1)) = some q := by decide +kernel
  exact e q h
theorem join_one (ws : List Str) : Txt.join "" (ws.take 1) = ws.headD "" := by
  match ws with
  | [] => decide +kernel
  | c :: r =>
    refine TL.ext_tl ?_
    rw [TL.join_eq, TL.tl_join]
    rfl
theorem partsOf_cons {z s : Str} {r ss : List Str} : partsOf (z :: r) (s :: ss) = ((partOf z s).map fun t => (t, s)).bind fun p => (partsOf r ss).map fun ps => p :: ps := by
  unfold partsOf
  rw [List.zip_cons_cons, List.mapM_cons]
  cases partOf z s with
  | none => rfl
  | some t =>
    show (Option.bind _ _) = _
    cases (r.zip ss).mapM (fun p => (partOf p.1 p.2).map fun t => (t, p.2)) with
    | none => rfl
    | some ps => rfl
theorem partsOf_ok : ∀ {r ss : List Str} {ps : List (Part × Str)}, partsOf r ss = some ps → r.length = ss.length → (∀ y ∈ r, Sm y) → ps.map (·.2) = ss ∧ ∀ p ∈ ps, p.1.Ok ∧ p.1.Fits p.2
  | [], [], ps, h, _, _ => by
    cases h
    exact ⟨rfl, fun p hp => by simp at hp⟩
  | z :: r, s :: ss, ps, h, hl, hm => by
    rw [partsOf_cons] at h
    cases ht : partOf z s with
    | none =>
      rw [ht] at h
      cases h
    | some t =>
      rw [ht] at h
      cases hr : partsOf r ss with
      | none =>
        rw [hr] at h
        cases h
      | some qs =>
        rw [hr] at h
        cases h
        obtain ⟨h1, h2⟩ := partsOf_ok hr (by simpa using hl) fun y hy => hm y (List.mem_cons_of_mem _ hy)
        refine ⟨by rw [List.map_cons, h1], fun p hp => ?_⟩
        rcases List.mem_cons.mp hp with e | e
        · subst e
          unfold partOf at ht
          split at ht
          · rename_i e
            cases hn : nameOf z with
            | none =>
              rw [hn] at ht
              cases ht
            | some g =>
              rw [hn] at ht
              cases ht
              exact ⟨nameOf_ok (hm z List.mem_cons_self) hn, e⟩
          · rename_i e
            cases hn : numB z with
            | none =>
              rw [hn] at ht
              cases ht
            | some g =>
              rw [hn] at ht
              cases ht
              exact ⟨trivial, e⟩
        · exact h2 p e
section
variable {P : Program} {w : World} {K : PySem.W.Frag} {mg : Str → Option Value} {base : Heap}
abbrev N_claim_part : List Str := ["word", "sort"]
abbrev P_claim_part : List Str := ["word", "sort"]
theorem sc_claim_part : FnScope N_claim_part P_claim_part (defScope s_claim_part) := ⟨rfl, rfl, rfl, by decide +kernel, rfl, by decide +kernel, by decide +kernel⟩
abbrev sp_claim_part (K : PySem.W.Frag) : Sp := spD K (CN K) (fun _ => Mode.no) (fun p : Str × Str => [.d (.str p.1), .d (.str p.2)]) (fun p => Sm p.1 ∧ okS p.2 = true) (fun p y => ∃ t, partOf p.1 p.2 = some t ∧ y = t.D) (fun p => partOf p.1 p.2 = none)
theorem ok_claim_part (W : Wd w K mg) : FnI P w K mg base 5 (He.ga K "claim_part") (sp_claim_part K) := by
  obtain ⟨fd, F⟩ := W.fd_claim_part
  refine FnI.of F sc_claim_part (fun _ _ _ _ _ _ us hl => match us, hl with | [_, _], _ => rfl) (fun _ _ => rfl) fun cdv A outer s H E hr ⟨z, t⟩ ⟨hz, ht⟩ => ⟨_, (pss_cons (ps_if (pt_cmpR (opK rEqD K (op_eqD hr.units)) (pv 1) pe_str (nomark _)) (pss_one (ps_ret (pe_callI (ok_name_of_text W) hr W.g_name_of_text (passes_call (takes_of rfl rfl rfl rfl) (fun _ _ _ _ h => h)) (pa_cons (pv 0) pa_nil)))) pss_nil)
      (pss_one (ps_ret (pe_callI (ok_number_of W) hr W.g_number_of (passes_call (takes_of rfl rfl rfl rfl) (fun _ _ _ _ h => h)) (pa_cons (pv 0) pa_nil))))), ?_⟩
  have hz : Sm z := hz
  have ht : okS t = true := ht
  try dsimp only [cxOf, Cx.blk, Cx.blkE]
  repeat fail "w"
  refine b_if2 (fun h1 => ?_) (fun h1 => ?_)
  · repeat fail "w"
    refine wp_call (.inl rfl) ?_
    repeat fail "w"
    refine ⟨fun y ⟨p, hp, ey⟩ => ?_, fun hx => ?_⟩
    · subst ey
      repeat fail "w"
      refine ⟨.nm p, ?_, rfl⟩
      show (if t = "name" then _ else _) = _
      rw [if_pos h1, hp]
      rfl
    · show (if t = "name" then _ else _) = _
      rw [if_pos h1, hx]
      rfl
  · repeat fail "w"
    refine wp_call (.inl rfl) ?_
    repeat fail "w"
    refine ⟨fun y ⟨i, hi, ey⟩ => ?_, fun hx => ?_⟩
    · subst ey
      repeat fail "w"
      refine ⟨.nu i, ?_, rfl⟩
      show (if t = "name" then _ else _) = _
      rw [if_neg h1, hi]
      rfl
    · show (if t = "name" then _ else _) = _
      rw [if_neg h1, hx]
      rfl
abbrev N_read_claim : List Str := ["text", "words", "sorts", "claim", "word", "sort"]
abbrev P_read_claim : List Str := ["text"]
theorem sc_read_claim : FnScope N_read_claim P_read_claim (defScope s_read_claim) := ⟨rfl, rfl, rfl, by decide +kernel, rfl, by decide +kernel, by decide +kernel⟩
abbrev sp_read_claim (K : PySem.W.Frag) : Sp := spD K (CN K) (fun _ => Mode.no) (fun z : Str => [.d (.str z)]) (fun z => z.length ≤ 90000 ∧ okS z = true ∧ (∀ y ∈ wordsOf z, Sm y) ∧ (wordsOf z).length ≤ 500) (fun z y => ∃ c, readC (wordsOf z) = some c ∧ y = c.D) (fun z => readC (wordsOf z) = none)
theorem ok_read_claim (W : Wd w K mg) : FnI P w K mg base 6 (He.ga K "read_claim") (sp_read_claim K) := by
  obtain ⟨fd, F⟩ := W.fd_read_claim
  refine FnI.of F sc_read_claim (fun _ _ _ _ _ _ us hl => match us, hl with | [_], _ => rfl) (fun _ _ => rfl) fun cdv A outer s H E hr z ⟨h1, h2, h3, h4⟩ => ⟨_, (pss_cons (ps_set (i := 1) sc_read_claim.nd rfl (Or.inl rfl) (pe_callI (ok_words_of W) hr W.g_words_of (passes_call (takes_of rfl rfl rfl rfl) (fun _ _ _ _ h => h)) (pa_cons (pv 0) pa_nil)))
      (pss_cons (ps_set (i := 2) sc_read_claim.nd rfl (Or.inl rfl) (pe_kget K w (pe_glob (v := .ref (He.ga K "SHAPES")) rfl W.g_SHAPES rfl) (pe_m1 PySem.F.slot_str_join PySem.F.type_str_join (mtK rJoin K mt_joinD) pe_str (pe_slice (slK rSlL K sl_list) (pv 1) po_none (po_some pe_int)) rfl) pe_non))
      (pss_cons (ps_if (PW.pt (pw_or (pt_cmpR op_isNn (pv 2) pe_non (nomark _)) (pw_or1 (pt_cmpR (opK rNeD K (op_neD hr.units)) (pe_callB (callK rLenD K call_lenD2) rfl W.f_len PyProof.Rows.Boot.«len» (pa_cons (pv 1) pa_nil)) (pe_op op_add pe_int (pe_callB (callK rLenD K call_lenD2) rfl W.f_len PyProof.Rows.Boot.«len» (pa_cons (pv 2) pa_nil))) (nomark _))))) (pss_one (ps_raise rfl (takes_of rfl rfl rfl rfl) (pmk_NL W hr))) pss_nil)
      (pss_cons (ps_set (i := 3) sc_read_claim.nd rfl (Or.inl rfl) (pe_op op_catT (pe_tup (pa_cons (pe_ix (ixK rIxL K ix_list) (pv 1) pe_int (fun _ _ => rfl)) pa_nil)) (pe_callTy (callK rTupL K call_tupL) rfl W.f_tuple PyProof.Rows.Boot.«tuple» (pa_cons (pe_lcE (own := [("word", 4), ("sort", 5)]) (tt := tYes) rfl rfl (takes_of rfl rfl rfl rfl) (fun _ _ _ _ h => h) rfl sc_read_claim.nd (pi_zipM K rfl W.f_zip (pa_cons (pe_slice (slK rSlL K sl_list) (pv 1) (po_some pe_int) po_none) (pa_cons (pv 2) pa_nil))) (blkOk_by (own := [("word", 4), ("sort", 5)]) (N := N_read_claim) (sc := defScope s_read_claim) (by decide +kernel)) (fun _ _ _ _ _ _ => (pg_tupK 2 K rfl (pgs_cons (pg_name (i := 4) sc_read_claim.nd rfl (Or.inl rfl)) (pgs_cons (pg_name (i := 5) sc_read_claim.nd rfl (Or.inl rfl)) pgs_nil)))) (fun _ _ _ _ _ _ => pts_nil) (fun _ _ _ _ _ _ hp => (pe_callI (ok_claim_part W) hr W.g_claim_part hp (pa_cons (pv 4) (pa_cons (pv 5) pa_nil))))) pa_nil))))
      (pss_cons (ps_if (pt_not (pt_val (pe_callI (ok_is_claim W) hr W.g_is_claim passL (pa_cons (pv 3) pa_nil)))) (pss_one (ps_raise rfl (takes_of rfl rfl rfl rfl) (pmk_NL W hr))) pss_nil)
      (pss_one (ps_ret (pv 3)))))))), ?_⟩
  try dsimp only [cxOf, Cx.blk, Cx.blkE]
  repeat fail "w"
  refine ⟨⟨h1, h2⟩, ?_⟩
  repeat fail "w"
  generalize hws : wordsOf z = ws at *
  refine wp_kget W ?_
  repeat fail "w"
  refine ⟨rfl, ?_⟩
  repeat fail "w"
  refine rs_takeM 1 ?_
  repeat fail "w"
  have hj : Txt.join "" (ws.take 1) = ws.headD "" := join_one ws
  have hjl : ((ws.take 1).map (·.length)).sum + (ws.take 1).length * Str.length "" ≤ 16777216 := by
    have e0 : Str.length "" = 0 := by decide +kernel
    rw [e0]
    match ws, h3 with
    | [], _ => decide
    | c :: r, h3 =>
      have := (h3 c (by simp)).len
      simp
      omega
  refine rt_join hjl ?_
  rw [hj]
  repeat fail "w"
  refine ⟨rfl, fun q hq e => ?_, fun hno => ?_⟩
  · obtain ⟨o1, o2, o3, o4⟩ := shapes_ok hq
    match ws, h3, h4, e with
    | [], _, _, e =>
      have : ∀ q ∈ shapes, q.1 ≠ "" := by decide +kernel
      exact absurd e (this q hq)
    | c :: r, h3, h4, e =>
      have e' : q.1 = c := e
      subst e'
      have hC : readC (q.1 :: r) = if r.length = q.2.length then (partsOf r q.2).bind fun ps => if claimB ⟨q.1, ps⟩ = true then some ⟨q.1, ps⟩ else none else none := by
        show (match shapes.find? (fun x => decide (x.1 = q.1)) with
          | none => none
          | some q => _) = _
        rw [shapes_find hq]
      repeat fail "w"
      have e1 : (List.map PyData.str (q.1 :: r)).length = r.length + 1 := by simp
      have e2 : (List.map PyData.str q.2).length = q.2.length := by simp
      rw [e1, e2]
      refine b_ifn (fun h5 => ?_) (fun h5 => ?_)
      · have hl : r.length = q.2.length := by omega
        rw [if_pos hl] at hC
        repeat fail "w"
        refine rd_ixL (atI_map (n := 0) (x := q.1) rfl) ?_
        repeat fail "w"
        refine wp_lcO (γ := Str × Str) (fun p => pairD (.str p.1, .str p.2)) (fun p => ((partOf p.1 p.2).map fun t => (t, p.2)).map fun t => t.1.D) (fun ⟨a, b⟩ ⟨c, d⟩ e => ?_) ?_
        · have e := PyData.tuple.inj e
          simp at e
          rw [e.1, e.2]
        · repeat fail "w"
          refine rs_dropM 1 ?_
          repeat fail "w"
          have ez : List.map Dv.d (List.map pairD ((List.map PyData.str (List.drop 1 (q.1 :: r))).zip (List.map PyData.str q.2))) = List.map (fun c : Str × Str => Dv.d (pairD (PyData.str c.1, PyData.str c.2))) (r.zip q.2) := by
            rw [List.zip_map, List.map_map, List.map_map]
            rfl
          have hzl : (r.zip q.2).length ≤ 100000 := by
            rw [List.length_zip]
            omega
          refine ⟨r.zip q.2, ez, hzl, fun c hc => ⟨_, tgt_tup (.cons _ (.cons _ .nil)) (by decide) rfl rfl, ?_⟩, fun zs hzs => ?_⟩
          · obtain ⟨m1, m2⟩ := List.of_mem_zip (a := c.1) (b := c.2) hc
            have hs : Sm c.1 := h3 c.1 (List.mem_cons_of_mem _ m1)
            have hs2 := o2 c.2 m2
            repeat fail "w"
            refine wp_call (.inl rfl) ?_
            repeat fail "w"
            refine ⟨⟨hs, hs2⟩, .no, fun y ⟨t, ht, ey⟩ => ?_, fun hx => ?_⟩
            · subst ey
              refine ⟨_, rfl, ?_⟩
              rw [ht]
              rfl
            · show readC (q.1 :: r) = none
              have hn : partsOf r q.2 = none := mapM_none hc (by rw [show partOf c.1 c.2 = none from hx]; rfl)
              rw [hC, hn]
              rfl
          · obtain ⟨ps, hps, rfl⟩ := mapM_then hzs
            have hps' : partsOf r q.2 = some ps := hps
            rw [hps'] at hC
            obtain ⟨k1, k2⟩ := partsOf_ok hps' hl fun y hy => h3 y (List.mem_cons_of_mem _ hy)
            have k3 : (q.1, ps.map (·.2)) ∈ shapes := by
              rw [k1]
              exact hq
            repeat fail "w"
            have hpl : ps.length ≤ 3 := by
              have := congrArg List.length k1
              rw [List.length_map] at this
              omega
            refine rd_catT (fun z => nomatch z) (by rw [sizeLine_eq, List.length_map]; simp; omega) ?_
            repeat fail "w"
            refine ⟨⟨q.1, ps⟩, rfl, ⟨k3, k2⟩, ?_⟩
            refine ⟨_, rfl, ?_⟩
            refine b_ifnb (fun h6 => ?_) (fun h6 => ?_)
            · repeat fail "w"
              refine ⟨⟨q.1, ps⟩, ?_, rfl⟩
              rw [hC]
              exact if_pos h6
            · refine ws_raise W.rc1 ?_
              show readC (q.1 :: r) = none
              rw [hC]
              exact if_neg (by rw [h6]; exact Bool.false_ne_true)
      · refine ws_raise W.rc1 ?_
        have hl : r.length ≠ q.2.length := by omega
        show readC (q.1 :: r) = none
        rw [hC, if_neg hl]
  · repeat fail "w"
    refine ws_raise W.rc1 ?_
    show readC ws = none
    match ws, hno with
    | [], _ => rfl
    | c :: r, hno =>
      have e : shapes.find? (fun q => decide (q.1 = c)) = none := List.find?_eq_none.mpr fun q hq => by
        simp
        exact hno q hq
      show (match shapes.find? (fun q => decide (q.1 = c)) with
        | none => none
        | some q => _) = none
      rw [e]
end
end K84

/-! part K84I -/
set_option maxHeartbeats 2000000
/-! K84I: every second item of a list of four. -/
namespace K84
open PySem PySem.Spec PyProof.Rows L2
def tEvenL (K : PySem.W.Frag) (te : TE) : TE := fun σ H Q => te σ H fun x H1 => ∃ a x0 x1 x2 x3, x = .ref a ∧ SqL K H1 a [x0, x1, x2, x3] ∧ ∀ p, H1 p = none → Q (.ref p) (upd H1 p (.lst [x0, x2]))
theorem even_pick (a b c d : Value) : slicePick #[a, b, c, d] none none (some 2) = #[a, c] := by
  unfold slicePick
  have e1 : sliceBounds none none (some 2) (#[a, b, c, d] : Array Value).size = (0, 4, 2) := rfl
  have e2 : sliceRange 0 4 2 = [0, 2] := by decide +kernel
  rw [e1]
  show ((sliceRange 0 4 2).filterMap ((#[a, b, c, d] : Array Value)[·]?)).toArray = _
  rw [e2]
  rfl
theorem pe_evenL0 {X : Cx} {e : Expr} {te : TE} {k : Nat} {p1 p3 pos : Pos} (he : PE X e te) : PE X (.Subscript e (.Slice none none (some (.Constant (.int 2) k p1)) p3) pos) (tEvenL X.K te) := by
  refine ⟨fun pins s σ H Q I h => ?_⟩
  refine Subscript_ (thn (he.run pins s σ H _ I h) fun v s1 ⟨x, H1, I1, r1, q1⟩ => ?_)
  obtain ⟨a, x0, x1, x2, x3, ex, hx, q⟩ := q1
  subst ex
  cases r1
  have hst : PO X (some (.Constant (.int 2) k p1)) (tPart (tC (.int 2))) := po_some pe_int
  refine wpAny_Slice (thn (po_none.run pins s1 σ H1 (fun o H2 => o = none ∧ H2 = H1) I1 ⟨rfl, rfl⟩) fun vl s2 ⟨l, H2, I2, pl, el, e2⟩ => ?_)
  subst el e2
  refine thn (po_none.run pins s2 σ H2 (fun o H3 => o = none ∧ H3 = H2) I2 ⟨rfl, rfl⟩) fun vu s3 ⟨u, H3, I3, pu, eu, e3⟩ => ?_
  subst eu e3
  refine thn (hst.run pins s3 σ H3 (fun o H4 => o = some 2 ∧ H4 = H3) I3 ⟨2, rfl, rfl, rfl⟩) fun vs s4 ⟨o, H4, I4, ps, eo, e4⟩ => ?_
  subst eo e4
  have I5 : Inv X pins σ H4 { s4 with heap := s4.heap.push { cls := .type "slice", data := .fields #[vl, vu, vs] } } := I4.kept (t' := s4.toks) fun b ob q => Heap.get?_push_of_some _ q
  obtain ⟨its, r, ht, hz⟩ := I5.list hx
  have hlen := r.length
  show wpAny (model X.prog X.w) X.A (subscriptTail e (.Slice none none (some (.Constant (.int 2) k p1)) p3) (.ref a) (.ref s4.heap.objs.size)) (EP X pins σ Q) X.xe { s4 with heap := s4.heap.push { cls := .type "slice", data := .fields #[vl, vu, vs] } }
  refine tail_any (ops := [.ref a, .ref s4.heap.objs.size]) ht.isList.typeIs (PySem.slot_list_getitem.lookup) ?_ (by with_unfolding_all rfl)
  refine wpAny_getItem_list_slice ht.isList (Heap.IsSliceOf.new _ vl vu vs) pl pu ps (by decide) ?_ (by rw [List.size_toArray]; omega)
  obtain ⟨u0, u1, u2, u3, eits, r0, r2⟩ : ∃ u0 u1 u2 u3, its = [u0, u1, u2, u3] ∧ RelV x0 u0 ∧ RelV x2 u2 := by
    cases r with
    | cons a1 b1 =>
      cases b1 with
      | cons a2 b2 =>
        cases b2 with
        | cons a3 b3 =>
          cases b3 with
          | cons a4 b4 =>
            cases b4
            exact ⟨_, _, _, _, rfl, a1, a3⟩
  subst eits
  rw [even_pick]
  refine ⟨.ref _, _, I5.laid (t' := s4.toks) (o := .lst [x0, x2]) (fun b ob q => Heap.get?_push_of_some _ q) (Nat.le_refl _) ?_, rfl, q _ (I5.hok.fresh (Nat.le_refl _))⟩
  exact ⟨by rw [sizeLine_eq]; simp, [u0, u2], 0, .cons r0 (.cons r2 .nil), Heap.get?_push_size _ rfl⟩
theorem pe_evenL {X : Cx} {e : Expr} {te : TE} {k : Nat} {p1 p3 pos : Pos} (K : PySem.W.Frag) (he : PE X e te) (eK : X.K = K := by rfl) : PE X (.Subscript e (.Slice none none (some (.Constant (.int 2) k p1)) p3) pos) (tEvenL K te) := eK ▸ pe_evenL0 he
section
variable {Γ : Ctx} {ss : Sd} {k : Dv → Prop} {x : Prop} {te : TE}
theorem wp_even (h : Wp Γ te ss (fun d => ∃ x0 x1 x2 x3, d = .d (.list [x0, x1, x2, x3]) ∧ k (.d (.list [x0, x2]))) x) : Wp Γ (tEvenL Γ.K te) ss k x := fun Pr G H σ v s Q hq hx =>
  h Pr G H σ v s _ (fun d z G1 H1 ⟨x0, x1, x2, x3, ed, hk⟩ g rd => by
    subst ed
    have rd' : Dq Γ.K G1 z (.list [x0, x1, x2, x3]) := rd
    cases rd' with
    | @lst a vs _ hs ha =>
      cases ha with
      | @cons v0 _ _ _ h0 ha =>
        cases ha with
        | cons h1 ha =>
          cases ha with
          | @cons v2 _ _ _ h2 ha =>
            cases ha with
            | cons h3 ha =>
              cases ha
              refine ⟨a, _, _, _, _, rfl, SqL.of (g.vw.sm _ _ hs), fun p hp => ?_⟩
              have n := g.vw.new (o := .lst [v0, v2]) hp
              exact hq _ _ _ _ hk (g.trans n) (.lst upd_same (dqAll_mono n.g (.cons h0 (.cons h2 .nil))))) hx
end
end K84
namespace K84
open PySem PySem.Spec PyProof.Rows L2
/-- what a test's answer tells -/
structure Br (P N : Prop) (b : Bool) : Prop where
  t : b = true → P
  f : b = false → N
theorem Br.yes {P N : Prop} (h : P) : Br P N true := ⟨fun _ => h, fun z => nomatch z⟩
theorem Br.no {P N : Prop} (h : N) : Br P N false := ⟨fun z => (nomatch z), fun _ => h⟩
theorem Br.dec {P N Q : Prop} [Decidable Q] (h1 : Q → P) (h2 : ¬ Q → N) : Br P N (decide Q) := ⟨fun z => h1 (of_decide_eq_true z), fun z => h2 (of_decide_eq_false z)⟩
theorem Br.ndec {P N Q : Prop} [Decidable Q] (h1 : ¬ Q → P) (h2 : Q → N) : Br P N (!decide Q) := ⟨fun z => h1 (by simpa using z), fun z => h2 (by simpa using z)⟩
section
variable {Γ : Ctx} {ss : Sd} {e : EndD} {tt : TT} {t u : TS}
theorem ws_ifB (P N : Prop) (ht : WpT Γ tt ss (Br P N) e.x) (h1 : P → WpS Γ t ss e) (h2 : N → WpS Γ u ss e) : WpS Γ (tIfS tt t u) ss e :=
  ws_if fun Pr G H σ v s Q hq hx => ht Pr G H σ v s Q (fun b G' H' hb g => hq b G' H' (by
    cases b with
    | true =>
      rw [if_pos rfl]
      exact h1 (hb.t rfl)
    | false =>
      rw [if_neg (by decide)]
      exact h2 (hb.f rfl)) g) hx
end
end K84

/-! part K84D25 -/
set_option maxHeartbeats 1000000
/-! K84D25: a reader's answer told. -/
namespace K84
local macro_rules | `(tactic| fail "w") => `(tactic| (first | with_reducible refine wp_neg ?_ | with_reducible refine wp_pick ?_ | with_reducible refine wp_draw ?_ | with_reducible refine ws_seq ?_ | with_reducible refine ws_nx ?_ | with_reducible refine ws_set ?_ | with_reducible refine ws_ret ?_ | with_reducible refine ws_if ?_ | with_reducible refine ws_drop ?_ | with_reducible refine wt_or ?_ | with_reducible refine wt_and ?_ | with_reducible refine wt_not ?_ | with_reducible refine wt_B ?_ | with_reducible refine wt_test ?_ | with_reducible refine wp_chain ?_ | with_reducible refine wp_andV ?_ | with_reducible refine wp_orV ?_ | with_reducible refine wp_notV ?_ | with_reducible refine wp_if ?_ | with_reducible refine wp_int ?_ | with_reducible refine wp_var (by with_unfolding_all rfl) ?_ | with_reducible refine wp_str ?_ | with_reducible refine wp_bl ?_ | with_reducible refine wp_non ?_ | with_reducible refine wp_ref ?_ | with_reducible refine wp_op ?_ | with_reducible refine wp_tup' ?_ | with_reducible refine wp_lst' ?_ | with_reducible refine wa_cons ?_ | with_reducible refine wa_nil ?_ | with_reducible refine wp_sl ?_ | with_reducible refine wo_none ?_ | with_reducible refine wo_some ?_ | with_reducible refine wp_isi' (by simp) ?_ | with_reducible refine wp_allIn (by with_unfolding_all rfl) (by assumption) (by with_unfolding_all exact of_decide_eq_true rfl) (by with_unfolding_all rfl) ?_ | with_reducible refine wp_cb ?_ | with_reducible refine wp_m1 ?_ | with_reducible refine rs_T1 ?_ | with_reducible refine rs_T' (by with_unfolding_all rfl) (by with_unfolding_all rfl) ?_ | with_reducible refine wi_list ?_ | with_reducible refine wi_tup ?_ | with_reducible refine wi_str ?_ | with_reducible refine wi_rng1 ?_ | with_reducible refine wi_rng2 ?_ | with_reducible refine wi_zipT ?_ | with_reducible refine wi_zipM ?_ | with_reducible refine wi_enum ?_ | with_reducible refine rd_ib ?_ | with_reducible refine rd_ii ?_ | with_reducible refine rd_inSg ?_ | with_reducible refine rd_mod (by first | assumption | decide) ?_ | with_reducible refine rd_mul (cmul_r (by decide +kernel)) ?_ | with_reducible refine rd_mul (cmul_l (by decide +kernel)) ?_ | with_reducible refine rc_max ?_ | with_reducible refine rc_min ?_ | with_reducible refine rd_eqI ?_ | with_reducible refine rd_neI ?_ | with_reducible refine rd_eqS (by first | assumption | decide +kernel) (by first | assumption | decide +kernel) ?_ | with_reducible refine rd_neS (by first | assumption | decide +kernel) (by first | assumption | decide +kernel) ?_ | with_reducible refine rd_iC (cpow_ok (by with_unfolding_all rfl)) ?_ | with_reducible refine rd_isN' (b := true) (by with_unfolding_all rfl) ?_ | with_reducible refine rd_isN' (b := false) (by with_unfolding_all rfl) ?_ | with_reducible refine rd_notN' (b := true) (by with_unfolding_all rfl) ?_ | with_reducible refine rd_notN' (b := false) (by with_unfolding_all rfl) ?_ | with_reducible refine rc_len (by first | assumption | with_unfolding_all rfl) ?_ | with_reducible refine rd_ixT0 ?_ | with_reducible refine rd_ixL0 ?_ | with_reducible refine rd_ixT (by first | assumption | with_unfolding_all rfl) ?_ | with_reducible refine rd_ixL (by first | assumption | with_unfolding_all rfl) ?_ | with_reducible refine wp_callF ?_ | with_reducible refine rc_tupL ?_ | with_reducible refine rc_strS ?_ | with_reducible refine rc_all ?_ | with_reducible refine L2.iteT ?_ | with_reducible refine ite_dT (by with_unfolding_all exact of_decide_eq_true rfl) ?_ | with_reducible refine ite_dF (by with_unfolding_all exact of_decide_eq_false rfl) ?_ | with_reducible refine ite_ndT (by with_unfolding_all exact of_decide_eq_true rfl) ?_ | with_reducible refine ite_ndF (by with_unfolding_all exact of_decide_eq_false rfl) ?_ | with_reducible refine L2.iteF ?_ | with_reducible refine ite_nt ?_ | with_reducible refine ite_nf ?_ | refine ⟨_, true, rfl, rfl, ?_⟩ | refine ⟨_, false, rfl, rfl, ?_⟩ | with_reducible refine ⟨_, rfl, ?_⟩ | with_reducible refine ⟨_, _, rfl, ?_⟩ | with_reducible refine And.intro (by first | assumption | exact trivial | with_unfolding_all exact of_decide_eq_true rfl) ?_ | with_reducible refine And.intro Mode.Sub.no ?_ | with_reducible refine ⟨_, (by with_unfolding_all rfl), (by with_unfolding_all exact of_decide_eq_true rfl), ?_⟩))
open PySem PySem.Spec PyProof.Rows L2
local macro_rules | `(tactic| fail "w") => `(tactic| (first | with_reducible refine rd_isE ?_ | with_reducible refine wp_isK1 (by with_unfolding_all assumption) (by with_unfolding_all exact ClsV.own _) (by with_unfolding_all assumption) ?_ | with_reducible refine wp_isK1 (by with_unfolding_all assumption) (by with_unfolding_all exact ClsV.ty _) (by with_unfolding_all assumption) ?_ | with_reducible refine wp_isKt (by with_unfolding_all assumption) (by with_unfolding_all assumption) ?_))
section
variable {P : Program} {w : World} {K : PySem.W.Frag} {mg : Str → Option Value} {base : Heap}
abbrev N_law_told : List Str := ["_law_gone", "_law_text_here", "_law_found", "_law_caught", "e"]
abbrev P_law_told : List Str := ["_law_gone", "_law_text_here"]
theorem sc_law_told : FnScope N_law_told P_law_told (defScope s_law_told) := ⟨rfl, rfl, rfl, by decide +kernel, rfl, by decide +kernel, by decide +kernel⟩
abbrev sp_law_told (K : PySem.W.Frag) (f : Addr) (A : Str → Prop) (Pm : Str → PyData → Prop) (Xm : Str → Prop) : Sp := spD K (CN K) (fun _ => Mode.no) (fun z : Str => [.r f, .d (.str z)]) A
  (fun z y => (∃ d, Pm z d ∧ y = .tuple [.str "read", d]) ∨ (Xm z ∧ y = .tuple [.str "none", .none])) (fun _ => False)
theorem ok_law_told (W : Wd w K mg) {f : Addr} {k0 : Nat} (hk : k0 ≤ 6) {A : Str → Prop} {Pm : Str → PyData → Prop} {Xm : Str → Prop} (FF : FnI P w K mg base k0 f (spD K (CN K) (fun _ => Mode.no) (fun z : Str => [.d (.str z)]) A Pm Xm)) :
    FnI P w K mg base 7 (He.ga K "_law_told") (sp_law_told K f A Pm Xm) := by
  obtain ⟨fd, F⟩ := W.fd_law_told
  refine FnI.of F sc_law_told (fun _ _ _ _ _ _ us hl => match us, hl with | [_, _], _ => rfl) (fun _ _ => rfl) fun cdv A' outer s H E hr z hA => ⟨_, (pss_cons (ps_set (i := 2) sc_law_told.nd rfl (Or.inl rfl) pe_non)
      (pss_cons (ps_set (i := 3) sc_law_told.nd rfl (Or.inl rfl) pe_non)
      (pss_cons (ps_try_keep (i := 4) (m := 5) (tb := fun W => tAsg (tCallL 0 f (spD K (CN K) (fun _ => Mode.no) (fun z : Str => [.d (.str z)]) A Pm Xm) [] (fun cls d H => ∀ σ, W cls d σ H) (tCons (tVar 1) tNil)) (gName 2)) (ts := fun _ _ _ => tAsg (tVar 4) (gName 3)) rfl rfl rfl sc_law_told.nd rfl rfl rfl ⟨rfl, by decide, Or.inl W.g_HoldError⟩ (takes_of rfl rfl rfl rfl) (fun W2 pn xe tk po => pss_one (ps_set (i := 2) sc_law_told.nd rfl (Or.inl rfl) (pe_callIL FF hr rfl (by first | exact Or.inl rfl | exact Or.inr (Or.inl rfl)) (passes_call tk (fun _ _ σ _ h => h σ)) (pa_cons (pv 1) pa_nil) (hk := hk)))) (fun a oe cls d pn hz hv => pss_one (ps_set (i := 3) sc_law_told.nd rfl (Or.inl rfl) (pv 4))))
      (pss_cons (ps_if (pt_cmpR op_isNn (pv 3) pe_non (nomark _)) (pss_one (ps_ret (pe_tup (pa_cons pe_str (pa_cons (pv 2) pa_nil))))) pss_nil)
      (pss_cons (ps_if (PW.pt (pw_or (pt_not (pt_val (pe_callB (callK rIsK K call_isK) rfl W.f_isinstance PyProof.Rows.Boot.«isinstance» (pa_cons (pv 3) (pa_cons (pe_glob (v := .ref (He.ga K "NoLetter")) rfl W.g_NoLetter rfl) pa_nil))))) (pw_or1 (pt_not (pt_val (pe_callB (callK rIsK K call_isK) rfl W.f_isinstance PyProof.Rows.Boot.«isinstance» (pa_cons (pv 3) (pa_cons (pe_bltn (v := .ty "ValueError") rfl W.f_ValueError PyProof.Rows.Boot.«ValueError» rfl) pa_nil)))))))) (pss_one (ps_ret (pe_tup (pa_cons pe_str (pa_cons pe_non pa_nil))))) pss_nil)
      (pss_cons (ps_if (pt_val (pe_callB (callK rIsK K call_isK) rfl W.f_isinstance PyProof.Rows.Boot.«isinstance» (pa_cons (pv 3) (pa_cons (pe_tup (pa_cons (pe_glob (v := .ref (He.ga K "NoTown")) rfl W.g_NoTown rfl) (pa_cons (pe_glob (v := .ref (He.ga K "NoPile")) rfl W.g_NoPile rfl) (pa_cons (pe_glob (v := .ref (He.ga K "NoRow")) rfl W.g_NoRow rfl) pa_nil)))) pa_nil)))) (pss_one (ps_ret (pe_tup (pa_cons pe_str (pa_cons pe_non pa_nil))))) pss_nil)
      (pss_one (ps_ret (pe_tup (pa_cons pe_str (pa_cons pe_non pa_nil))))))))))), ?_⟩
  try dsimp only [cxOf, Cx.blk, Cx.blkE]
  obtain ⟨hf1, hf2, hf3, hf4⟩ := W.isf
  refine ws_seq (ws_set (wp_non (ws_seq (ws_set (wp_non (ws_seq (ws_tryL rfl (by decide) (by decide) (by decide) (fun _ => rfl) W.exf.exm ?_)))))))
  repeat fail "w"
  refine ⟨fun d hd => ?_, fun hx => ?_⟩
  · repeat fail "w"
    exact .inl ⟨d, hd, rfl⟩
  · repeat fail "w"
    refine ⟨rfl, ?_⟩
    repeat fail "w"
    refine ⟨rfl, ?_⟩
    repeat fail "w"
    refine ⟨rfl, ?_⟩
    repeat fail "w"
    exact .inr ⟨hx, rfl⟩
end
end K84

/-! part K84D26 -/
set_option maxHeartbeats 1000000
/-! K84D26: the same, in all kinds. -/
namespace K84
local macro_rules | `(tactic| fail "w") => `(tactic| (first | with_reducible refine wp_neg ?_ | with_reducible refine wp_pick ?_ | with_reducible refine wp_draw ?_ | with_reducible refine ws_seq ?_ | with_reducible refine ws_nx ?_ | with_reducible refine ws_set ?_ | with_reducible refine ws_ret ?_ | with_reducible refine ws_if ?_ | with_reducible refine ws_drop ?_ | with_reducible refine wt_or ?_ | with_reducible refine wt_and ?_ | with_reducible refine wt_not ?_ | with_reducible refine wt_B ?_ | with_reducible refine wt_test ?_ | with_reducible refine wp_chain ?_ | with_reducible refine wp_andV ?_ | with_reducible refine wp_orV ?_ | with_reducible refine wp_notV ?_ | with_reducible refine wp_if ?_ | with_reducible refine wp_int ?_ | with_reducible refine wp_var (by with_unfolding_all rfl) ?_ | with_reducible refine wp_str ?_ | with_reducible refine wp_bl ?_ | with_reducible refine wp_non ?_ | with_reducible refine wp_ref ?_ | with_reducible refine wp_op ?_ | with_reducible refine wp_tup' ?_ | with_reducible refine wp_lst' ?_ | with_reducible refine wa_cons ?_ | with_reducible refine wa_nil ?_ | with_reducible refine wp_sl ?_ | with_reducible refine wo_none ?_ | with_reducible refine wo_some ?_ | with_reducible refine wp_isi' (by simp) ?_ | with_reducible refine wp_allIn (by with_unfolding_all rfl) (by assumption) (by with_unfolding_all exact of_decide_eq_true rfl) (by with_unfolding_all rfl) ?_ | with_reducible refine wp_cb ?_ | with_reducible refine wp_m1 ?_ | with_reducible refine rs_T1 ?_ | with_reducible refine rs_T' (by with_unfolding_all rfl) (by with_unfolding_all rfl) ?_ | with_reducible refine wi_list ?_ | with_reducible refine wi_tup ?_ | with_reducible refine wi_str ?_ | with_reducible refine wi_rng1 ?_ | with_reducible refine wi_rng2 ?_ | with_reducible refine wi_zipT ?_ | with_reducible refine wi_zipM ?_ | with_reducible refine wi_enum ?_ | with_reducible refine rd_ib ?_ | with_reducible refine rd_ii ?_ | with_reducible refine rd_inSg ?_ | with_reducible refine rd_mod (by first | assumption | decide) ?_ | with_reducible refine rd_mul (cmul_r (by decide +kernel)) ?_ | with_reducible refine rd_mul (cmul_l (by decide +kernel)) ?_ | with_reducible refine rc_max ?_ | with_reducible refine rc_min ?_ | with_reducible refine rd_eqI ?_ | with_reducible refine rd_neI ?_ | with_reducible refine rd_eqS (by first | assumption | decide +kernel) (by first | assumption | decide +kernel) ?_ | with_reducible refine rd_neS (by first | assumption | decide +kernel) (by first | assumption | decide +kernel) ?_ | with_reducible refine rd_iC (cpow_ok (by with_unfolding_all rfl)) ?_ | with_reducible refine rd_isN' (b := true) (by with_unfolding_all rfl) ?_ | with_reducible refine rd_isN' (b := false) (by with_unfolding_all rfl) ?_ | with_reducible refine rd_notN' (b := true) (by with_unfolding_all rfl) ?_ | with_reducible refine rd_notN' (b := false) (by with_unfolding_all rfl) ?_ | with_reducible refine rc_len (by first | assumption | with_unfolding_all rfl) ?_ | with_reducible refine rd_ixT0 ?_ | with_reducible refine rd_ixL0 ?_ | with_reducible refine rd_ixT (by first | assumption | with_unfolding_all rfl) ?_ | with_reducible refine rd_ixL (by first | assumption | with_unfolding_all rfl) ?_ | with_reducible refine wp_callF ?_ | with_reducible refine rc_tupL ?_ | with_reducible refine rc_strS ?_ | with_reducible refine rc_all ?_ | with_reducible refine L2.iteT ?_ | with_reducible refine ite_dT (by with_unfolding_all exact of_decide_eq_true rfl) ?_ | with_reducible refine ite_dF (by with_unfolding_all exact of_decide_eq_false rfl) ?_ | with_reducible refine ite_ndT (by with_unfolding_all exact of_decide_eq_true rfl) ?_ | with_reducible refine ite_ndF (by with_unfolding_all exact of_decide_eq_false rfl) ?_ | with_reducible refine L2.iteF ?_ | with_reducible refine ite_nt ?_ | with_reducible refine ite_nf ?_ | refine ⟨_, true, rfl, rfl, ?_⟩ | refine ⟨_, false, rfl, rfl, ?_⟩ | with_reducible refine ⟨_, rfl, ?_⟩ | with_reducible refine ⟨_, _, rfl, ?_⟩ | with_reducible refine And.intro (by first | assumption | exact trivial | with_unfolding_all exact of_decide_eq_true rfl) ?_ | with_reducible refine And.intro Mode.Sub.no ?_ | with_reducible refine ⟨_, (by with_unfolding_all rfl), (by with_unfolding_all exact of_decide_eq_true rfl), ?_⟩))
open PySem PySem.Spec PyProof.Rows L2
section
variable {P : Program} {w : World} {K : PySem.W.Frag} {mg : Str → Option Value} {base : Heap}
/-- a text, a number, or a tuple of such as A tells -/
def SDs (A : PyData → Prop) (x : PyData) : Prop := (∃ z, x = .str z ∧ okS z = true) ∨ (∃ i, x = .int i) ∨ ∃ xs, x = .tuple xs ∧ xs.length ≤ 1000 ∧ ∀ y ∈ xs, A y
abbrev N_law_same : List Str := ["_law_found", "_law_due_here", "_law_one", "_law_other"]
abbrev P_law_same : List Str := ["_law_found", "_law_due_here"]
theorem sc_law_same : FnScope N_law_same P_law_same (defScope s_law_same) := ⟨rfl, rfl, rfl, by decide +kernel, rfl, by decide +kernel, by decide +kernel⟩
abbrev sp_same (K : PySem.W.Frag) (A : PyData → Prop) : Sp := spD K (CN K) (fun _ => Mode.no) (fun x : PyData => [.d x, .d x]) A (fun _ y => y = .bool true) (fun _ => False)
theorem same_base (W : Wd w K mg) : FnI P w K mg base 1 (He.ga K "_law_same") (sp_same K fun _ => False) := by
  obtain ⟨fd, F⟩ := W.fd_law_same
  exact FnI.of F sc_law_same (fun _ _ _ _ _ _ us hl => match us, hl with | [_, _], _ => rfl) (fun _ _ => rfl) fun cdv A' outer s H E hr x hx => hx.elim
theorem pair_inj (a b : PyData) (h : pairD (a, a) = pairD (b, b)) : a = b := by
  have e := PyData.tuple.inj h
  simp at e
  exact e
theorem zip_same {α : Type} : ∀ xs : List α, xs.zip xs = xs.map fun x => (x, x)
  | [] => rfl
  | x :: xs => by
    rw [List.zip_cons_cons, zip_same xs]
    rfl
theorem same_step (W : Wd w K mg) {n : Nat} {A : PyData → Prop} (IH : FnI P w K mg base n (He.ga K "_law_same") (sp_same K A)) : FnI P w K mg base (n + 1) (He.ga K "_law_same") (sp_same K (SDs A)) := by
  obtain ⟨fd, F⟩ := W.fd_law_same
  refine FnI.of F sc_law_same (fun _ _ _ _ _ _ us hl => match us, hl with | [_, _], _ => rfl) (fun _ _ => rfl) fun cdv A' outer s H E hr x hx => ⟨_, (pss_cons (ps_if (pt_val (pe_callB (callK rIsi K call_isi) rfl W.f_isinstance PyProof.Rows.Boot.«isinstance» (pa_cons (pv 1) (pa_cons (pe_bltn (v := .ty "tuple") rfl W.f_tuple PyProof.Rows.Boot.«tuple» rfl) pa_nil)))) (pss_cons (ps_if (PW.pt (pw_or (pt_not (pt_val (pe_callB (callK rIsi K call_isi) rfl W.f_isinstance PyProof.Rows.Boot.«isinstance» (pa_cons (pv 0) (pa_cons (pe_bltn (v := .ty "tuple") rfl W.f_tuple PyProof.Rows.Boot.«tuple» rfl) pa_nil))))) (pw_or1 (pt_cmpR (opK rNeD K (op_neD hr.units)) (pe_callB (callK rLenD K call_lenD2) rfl W.f_len PyProof.Rows.Boot.«len» (pa_cons (pv 0) pa_nil)) (pe_callB (callK rLenD K call_lenD2) rfl W.f_len PyProof.Rows.Boot.«len» (pa_cons (pv 1) pa_nil)) (nomark _))))) (pss_one (ps_ret pe_bl)) pss_nil)
      (pss_one (ps_ret (pe_callB (callK rAll K (cr_all rfl)) rfl W.f_all PyProof.Rows.Boot.«all» (pa_cons (pe_lc (own := [("_law_one", 2), ("_law_other", 3)]) (tt := tYes) rfl sc_law_same.nd (RZ.pi_zipA rfl W.f_zip (pa_cons (pv 0) (pa_cons (pv 1) pa_nil))) (blkOk_by (own := [("_law_one", 2), ("_law_other", 3)]) (N := N_law_same) (sc := defScope s_law_same) (by decide +kernel)) (fun _ _ _ _ _ => (pg_tupK 2 K rfl (pgs_cons (pg_name (i := 2) sc_law_same.nd rfl (Or.inl rfl)) (pgs_cons (pg_name (i := 3) sc_law_same.nd rfl (Or.inl rfl)) pgs_nil)))) (fun _ _ _ _ _ => pts_nil) (fun _ _ _ _ _ => (pe_callI IH hr W.g_law_same passL (pa_cons (pv 2) (pa_cons (pv 3) pa_nil)) (hk := Nat.le_refl _)))) pa_nil))))) pss_nil)
      (pss_cons (ps_if (pt_val (pe_callB (callK rIsi K call_isi) rfl W.f_isinstance PyProof.Rows.Boot.«isinstance» (pa_cons (pv 1) (pa_cons (pe_bltn (v := .ty "str") rfl W.f_str PyProof.Rows.Boot.«str» rfl) pa_nil)))) (pss_one (ps_ret (pe_and (pe_callB (callK rIsi K call_isi) rfl W.f_isinstance PyProof.Rows.Boot.«isinstance» (pa_cons (pv 0) (pa_cons (pe_bltn (v := .ty "str") rfl W.f_str PyProof.Rows.Boot.«str» rfl) pa_nil))) (pe_one (pe_cmpR (opK rEqD K (op_eqD hr.units)) (pv 0) (pv 1) (nomark _)))))) pss_nil)
      (pss_one (ps_ret (pe_and (pe_callB (callK rIsi K call_isi) rfl W.f_isinstance PyProof.Rows.Boot.«isinstance» (pa_cons (pv 0) (pa_cons (pe_bltn (v := .ty "int") rfl W.f_int PyProof.Rows.Boot.«int» rfl) pa_nil))) (pe_and (pe_not (pe_callB (callK rIsi K call_isi) rfl W.f_isinstance PyProof.Rows.Boot.«isinstance» (pa_cons (pv 0) (pa_cons (pe_bltn (v := .ty "bool") rfl W.f_bool PyProof.Rows.Boot.«bool» rfl) pa_nil)))) (pe_one (pe_cmpR (opK rEqD K (op_eqD hr.units)) (pv 0) (pv 1) (nomark _))))))))), ?_⟩
  try dsimp only [cxOf, Cx.blk, Cx.blkE]
  rcases hx with ⟨z, rfl, hz⟩ | ⟨i, rfl⟩ | ⟨xs, rfl, hl, hA⟩
  · repeat fail "w"
    simp
  · repeat fail "w"
    simp
  · repeat fail "w"
    refine b_ifn (fun h => ?_) (fun h => absurd rfl h)
    repeat fail "w"
    refine wp_lcG (γ := PyData) (fun x => pairD (x, x)) (fun _ => .bool true) pair_inj ?_
    repeat fail "w"
    refine ⟨xs, by rw [zip_same, List.map_map, List.map_map]; rfl, by omega, fun c hc => ⟨_, tgt_tup (.cons _ (.cons _ .nil)) (by decide) rfl rfl, ?_⟩, ?_⟩
    · repeat fail "w"
      exact ⟨hA c hc, rfl⟩
    · repeat fail "w"
      have e : xs.map (fun _ => PyData.bool true) = (xs.map fun _ => true).map PyData.bool := by rw [List.map_map]; rfl
      rw [e]
      refine rc_all ?_
      repeat fail "w"
      simp
theorem ok_law_same (W : Wd w K mg) : FnI P w K mg base 5 (He.ga K "_law_same") (sp_same K (SDs (SDs (SDs (SDs fun _ => False))))) := same_step W (same_step W (same_step W (same_step W (same_base W))))
end
end K84

/-! part K84P -/
set_option maxHeartbeats 2000000
/-! K84P: the list of draws. -/
namespace K84
open PySem PySem.Spec PyProof.Rows L2
abbrev Dr : Type := Int × Int
def inR (p : Dr) : Prop := (0 ≤ p.1 ∧ p.1 < 10 ^ 40) ∧ 0 ≤ p.2 ∧ p.2 < 2147483647
def cnP : Cn Dr := ⟨fun _ p vs => vs = [.int p.1, .int p.2], fun _ h => h⟩
theorem free_P : cnP.Free := fun _ _ _ _ h => h
theorem ownP {Γ : Ctx0} : OwnD Γ cnP (fun p => [.int p.1, .int p.2]) := fun G p vs h => by
  have h' : vs = [.int p.1, .int p.2] := h
  subst h'
  exact .cons (.int _) (.cons (.int _) .nil)
abbrev famP (l : Addr) : Fam (Unit × Dr) := (Fam.one Mode.no).cell l cnP
theorem no_own {l : Addr} : ¬ (Fam.one Mode.no).own l := fun z => z
section
variable {Γ : Ctx0} {l : Addr} {t u : TS} {te : TE} {ss : Sd} {i : Nat} {x : Prop}
/-- the draws, opened -/
theorem ws_draws {e : EndD} (h : ∀ p, inR p → WpFS Γ (famP l) ((), p) t ss ⟨fun ss' c => inR c.2 ∧ e.nx ss', fun d c => inR c.2 ∧ e.rt d, e.x⟩) : WpS (Γ.at (Mode.draws l)) t ss e := fun Pr G H σ v s D kn kr kx => by
  obtain ⟨a, b, h1, h2, h3, h4, hH⟩ := v.lf
  have v' : Vw ((famP l).at ((), (a, b))) Pr G H := v.as (fun y hy => hy.elim (fun z => z.elim) fun z => v.ow y z) ⟨trivial, _, hH, rfl⟩
  have back : ∀ c G' H', inR c.2 → GoF (famP l) Pr G H c G' H' → Go (Mode.draws l) Pr G H G' H' := fun c G' H' hc g => by
    obtain ⟨_, vs, e1, e2⟩ := g.vw.lf
    have e2' : vs = [.int c.2.1, .int c.2.2] := e2
    subst e2'
    exact ⟨⟨g.vw.sm, g.vw.pr, v.ow, _, _, hc.1.1, hc.1.2, hc.2.1, hc.2.2, e1⟩, g.g, fun y o n q => g.h y o (fun z => z.elim (fun z => z.elim) fun z => n z) q⟩
  refine h (a, b) ⟨⟨h1, h2⟩, h3, h4⟩ Pr G H σ v' s D (fun ss' σ' c G' H' hn g s' => kn ss' σ' G' H' hn.2 (back c G' H' hn.1 g) s') (fun d w c G' H' hr g rd => kr d w G' H' hr.2 (back c G' H' hr.1 g) rd) fun z dd fs H' kp => kx z dd fs H' fun y o n q => kp y o (fun z => z.elim (fun z => z.elim) fun z => n z) q
theorem set_P {p : Dr} {e : EndF (Unit × Dr)} {j m : Nat} (hi : ss[i]? = some (some (.r l))) (hm : ixN 2 (j : Int) = some m) (q : Dr → Int → Dr) (hq : ∀ (p : Dr) (n : Int), [V.int p.1, V.int p.2].set m (.int n) = [.int (q p n).1, .int (q p n).2])
    (h : WpF Γ (famP l) ((), p) te ss (fun d c1 => ∃ n, d = .d (.int n) ∧ e.nx ss ((), q c1.2 n)) e.x) : WpFS Γ (famP l) ((), p) (tAsg te (gSub (tVar i) (tC (.int (j : Int))) rSetL)) ss e := fun Pr G H σ v s D kn kr kx => by
  refine h Pr G H σ v s _ (fun d w c1 G1 H1 ⟨n, ed, hn⟩ g rd => ?_) kx
  subst ed
  cases rd
  have s1 := s.mono g.g
  obtain ⟨y, ey, ry⟩ := s1.get hi
  have ry' : y = .ref l := ry
  subst ry'
  obtain ⟨c0, p1⟩ := c1
  obtain ⟨hJ, vs, hv, rv⟩ := g.vw.lf
  have rv' : vs = [.int p1.1, .int p1.2] := rv
  subst rv'
  have g4 : GoF (Fam.one Mode.no) Pr G1 H1 c0 G1 H1 := ⟨⟨g.vw.sm, g.vw.pr, fun x hx => hx.elim, trivial⟩, Same.refl _, fun x o _ e => e⟩
  have g5 := g4.put (N := cnP) (q := l) (b1 := q p1 n) (vs := [V.int p1.1, V.int p1.2].set m (.int n)) no_own (v.ow l (.inr rfl)) (fun x hx => hx.elim) (hq p1 n)
  exact ⟨_, ey, l, _, (j : Int), m, rfl, rfl, hv, hm, kn ss σ _ _ _ hn (g.trans g5) s1⟩
theorem fs_set0 {p : Dr} {e : EndF (Unit × Dr)} (hi : ss[i]? = some (some (.r l))) (h : WpF Γ (famP l) ((), p) te ss (fun d c1 => ∃ n, d = .d (.int n) ∧ e.nx ss ((), (n, c1.2.2))) e.x) : WpFS Γ (famP l) ((), p) (tAsg te (gSub (tVar i) (tC (.int 0)) rSetL)) ss e :=
  set_P (j := 0) (m := 0) hi (by decide) (fun p n => (n, p.2)) (fun _ _ => rfl) h
theorem fs_set1 {p : Dr} {e : EndF (Unit × Dr)} (hi : ss[i]? = some (some (.r l))) (h : WpF Γ (famP l) ((), p) te ss (fun d c1 => ∃ n, d = .d (.int n) ∧ e.nx ss ((), (c1.2.1, n))) e.x) : WpFS Γ (famP l) ((), p) (tAsg te (gSub (tVar i) (tC (.int 1)) rSetL)) ss e :=
  set_P (j := 1) (m := 1) hi (by decide) (fun p n => (p.1, n)) (fun _ _ => rfl) h
/-- the draws looked at -/
theorem wf_look {p : Dr} {k : Dv → Unit × Dr → Prop} (i : Nat) (hi : ss[i]? = some (some (.r l))) (h : Wp (Γ.at Mode.no) te (ss.set i (some (.d (.list [.int p.1, .int p.2])))) (fun d => flat d = true ∧ k d ((), p)) x) : WpF Γ (famP l) ((), p) te ss k x :=
  wf_peekN free_P ownP gf_no no_own i hi (wf_lift0 h)
theorem ft_look {p : Dr} {tt : TT} {k : Bool → Unit × Dr → Prop} (i : Nat) (hi : ss[i]? = some (some (.r l))) (h : WpT (Γ.at Mode.no) tt (ss.set i (some (.d (.list [.int p.1, .int p.2])))) (fun d => k d ((), p)) x) : WpFT Γ (famP l) ((), p) tt ss k x :=
  ft_peekN free_P ownP gf_no no_own i hi (ft_lift0 h)
end
/-! a list that is made and handed back, to be changed later -/
def WpN (Γ : Ctx) (t : TS) (ss : Sd) (k : Dr → Prop) : Prop := ∀ Pr G H σ, Vw Γ.M Pr G H → Sl Γ.K G σ ss → ∀ D : Ends, (∀ p c G' H', k c → Go Γ.M Pr G H G' H' → H' p = none → D.rt (.ref p) (upd H' p (.lst [.int c.1, .int c.2]))) → t D σ H
section
variable {Γ : Ctx} {t u : TS} {tr : TA} {ss : Sd} {k : Dr → Prop}
theorem wn_seq (h : WpS Γ t ss ⟨fun s => WpN Γ u s k, fun _ => False, False⟩) : WpN Γ (tSeq t u) ss k := fun Pr G H σ v s D kr =>
  h Pr G H σ v s { D with nx := u D } (fun ss' σ' G' H' hu g s' => hu Pr G' H' σ' g.vw s' D fun p c G2 H2 hk g2 hp => kr p c G2 H2 hk (g.trans g2) hp) (fun _ _ _ _ z => z.elim) fun z => z.elim
theorem wn_ret (h : WpA Γ tr ss (fun as => ∃ a b, as = [.d (.int a), .d (.int b)] ∧ k (a, b)) False) : WpN Γ (tRet (tLst tr)) ss k := fun Pr G H σ v s D kr =>
  h Pr G H σ v s _ (fun as vs G1 H1 ⟨a, b, ea, hk⟩ g rs => by
    subst ea
    cases rs with
    | cons h1 t =>
      cases t with
      | cons h2 t =>
        cases t
        cases h1
        cases h2
        exact ⟨by rw [sizeLine_eq]; simp, fun p hp => kr p (a, b) G1 H1 hk g hp⟩) fun z => z.elim
end
theorem sql_mono {K : PySem.W.Frag} {H H' : Hp} {a : Addr} {xs : List V} (e : Same H H') (h : SqL K H a xs) : SqL K H' a xs := by
  rcases h with h | h
  · exact .inl (rd_mono e h)
  · exact .inr h
/-- the script, that is read alone -/
def Mode.scr (K : PySem.W.Frag) (a : Addr) (ns : List Int) : Mode := ⟨fun _ => False, fun G _ => SqL K G a (ns.map V.int), fun h s _ => sql_mono s h⟩
section
variable {K : PySem.W.Frag} {E : XK} {C a : Addr} {ns : List Int} {k : Dv → Prop}
theorem rc_lenS (q : k (.d (.int (ns.length : Nat)))) : RC ⟨K, Mode.scr K a ns, E, C⟩ (rLenD K) [.r a] k := fun Pr G H vs vw ra Q hq => by
  cases ra with
  | @cons v _ _ _ h t =>
    cases t
    have e : v = .ref a := h
    subst e
    exact ⟨_, ns.length, rfl, .inl ⟨_, sql_mono vw.sm vw.lf, by rw [List.length_map]⟩, hq _ _ G H q (Go.refl vw) (.int _)⟩
theorem rd_ixSc {n : Nat} (h : n < ns.length) (q : k (.d (.int ns[n]))) : RD ⟨K, Mode.scr K a ns, E, C⟩ (rIxL K) (.r a) (.d (.int (n : Int))) k := fun Pr G H v w vw ra rb Q hq => by
  have e : v = .ref a := ra
  subst e
  cases rb
  exact ⟨a, _, _, .int ns[n], rfl, rfl, sql_mono vw.sm vw.lf, atI_nat (by rw [List.getElem?_map, List.getElem?_eq_getElem h]; rfl), hq _ _ G H q (Go.refl vw) (.int _)⟩
end
def spLeft (K : PySem.W.Frag) : Sp := fun vs H Q _ => ∃ (a : Addr) (ns : List Int) (k : Nat) (G : Hp) (Pr : Addr → Prop), (ns.length ≤ 1000 ∧ k ≤ 1000) ∧ DvAll K G vs [.r a, .d (.int (k : Nat))] ∧ Vw (Mode.scr K a ns) Pr G H ∧
  ∀ p c G' H', inR c → Go (Mode.scr K a ns) Pr G H G' H' → H' p = none → Q (.ref p) (upd H' p (.lst [.int c.1, .int c.2]))
theorem ws_left {Γ : Ctx0} {E : XK} {tr : TA} {i : Nat} {u : TS} {ss : Sd} {e : EndD} {a : Addr} {ns : List Int}
    (h : WpA (Γ.at (Mode.scr Γ.K a ns)) tr ss (fun as => ∃ k : Nat, as = [.r a, .d (.int (k : Nat))] ∧ (ns.length ≤ 1000 ∧ k ≤ 1000) ∧ ∀ p, WpS (Γ.at (Mode.draws p)) u (ss.set i (some (.r p))) e) e.x) :
    WpS (Γ.at (Mode.scr Γ.K a ns)) (tSeq (tAsg (tCall (spLeft Γ.K) [] E tr) (gName i)) u) ss e := fun Pr G H σ v s D kn kr kx =>
  h Pr G H σ v s _ (fun as vs G1 H1 ⟨k, ea, hA, hu⟩ g rs => by
    subst ea
    refine ⟨a, ns, k, G1, Pr, hA, by rw [List.append_nil]; exact rs, g.vw, fun p c G2 H2 hc g2 hp => ?_⟩
    have g12 := g.trans g2
    have gp : G2 p = none := g12.vw.sm.free hp
    have np : ¬ Pr p := fun z => (g12.vw.pr p z).2.ne hp
    have hs : Solid (upd H2 p (.lst [.int c.1, .int c.2]) p) := by
      rw [upd_same]
      exact ⟨_, rfl, fun _ y => nomatch y⟩
    have g1 : Go (Mode.scr Γ.K a ns) Pr G2 H2 G2 (upd H2 p (.lst [.int c.1, .int c.2])) := g12.vw.own hp
    have w1 : Vw (Mode.draws p) (fun y => Pr y ∨ y = p) G2 (upd H2 p (.lst [.int c.1, .int c.2])) := (g1.vw.more gp hs).as (fun y hy => .inr hy) ⟨_, _, hc.1.1, hc.1.2, hc.2.1, hc.2.2, upd_same⟩
    have keep : ∀ y o, H y = some o → y ≠ p := fun y o q z => by
      have q1 := g12.h y o (fun z => z) q
      rw [z, hp] at q1
      cases q1
    have back : ∀ G3 H3, Go (Mode.draws p) (fun y => Pr y ∨ y = p) G2 (upd H2 p (.lst [.int c.1, .int c.2])) G3 H3 → Go (Mode.scr Γ.K a ns) Pr G H G3 H3 := fun G3 H3 g3 =>
      ⟨⟨g3.vw.sm, fun y hy => g3.vw.pr y (.inl hy), fun y hy => hy.elim, sql_mono g3.g g12.vw.lf⟩, g12.g.trans g3.g, fun y o n q => g3.h y o (keep y o q) (by rw [upd_ne (keep y o q)]; exact g12.h y o n q)⟩
    refine hu p _ G2 _ _ w1 (Sl.set (d := .r p) rfl i (s.mono g12.g)) D (fun ss' σ' G3 H3 hn g3 s3 => kn ss' σ' G3 H3 hn (back G3 H3 g3) s3) (fun d w G3 H3 hr g3 rd => kr d w G3 H3 hr (back G3 H3 g3) rd) fun z dd fs H' kp => kx z dd fs H' fun y o n q => ?_
    exact kp y o (keep y o q) (by rw [upd_ne (keep y o q)]; exact g12.h y o n q)) kx
def rMax2b : List V → Hp → VK → Prop := fun xs H Q => ∃ i j, xs = [.int i, .int j] ∧ Q (.int (if j > i then j else i)) H
theorem call_max2b {X : Cx} (hc : X.calm = true) : CallR X (.builtin "max") rMax2b := call_max2 hc
def rMin2b : List V → Hp → VK → Prop := fun xs H Q => ∃ i j, xs = [.int i, .int j] ∧ Q (.int (if j < i then j else i)) H
theorem call_min2b {X : Cx} (hc : X.calm = true) : CallR X (.builtin "min") rMin2b := call_min2 hc
section
variable {Γ : Ctx} {k : Dv → Prop}
theorem rd_mod {i j : Int} (h : 0 < j) (q : k (.d (.int (i % j)))) : RD Γ (rI (fun _ j => 0 < j) fun i j => .int (i % j)) (.d (.int i)) (.d (.int j)) k := rd_iC h q
theorem cmul_r {i j : Int} (h : -(2 ^ 64) < j ∧ j < 2 ^ 64) : CMul i j := .inr h
theorem cmul_l {i j : Int} (h : -(2 ^ 64) < i ∧ i < 2 ^ 64) : CMul i j := .inl h
theorem rd_mul {i j : Int} (h : CMul i j) (q : k (.d (.int (i * j)))) : RD Γ (rI CMul fun i j => .int (i * j)) (.d (.int i)) (.d (.int j)) k := rd_iC h q
theorem rc_max {i j : Int} (q : k (.d (.int (if j > i then j else i)))) : RC Γ rMax2b [.d (.int i), .d (.int j)] k := fun Pr G H vs vw ra Q hq => by
  cases ra with
  | cons h1 t =>
    cases t with
    | cons h2 t =>
      cases t
      cases h1
      cases h2
      exact ⟨i, j, rfl, hq _ _ G H q (Go.refl vw) (.int _)⟩
theorem rc_min {i j : Int} (q : k (.d (.int (if j < i then j else i)))) : RC Γ rMin2b [.d (.int i), .d (.int j)] k := fun Pr G H vs vw ra Q hq => by
  cases ra with
  | cons h1 t =>
    cases t with
    | cons h2 t =>
      cases t
      cases h1
      cases h2
      exact ⟨i, j, rfl, hq _ _ G H q (Go.refl vw) (.int _)⟩
end
end K84

/-! part K84Q -/
set_option maxHeartbeats 2000000
/-! K84Q: texts repeated, cut; words of letters. -/
namespace K84
open PySem PySem.Spec PyProof.Rows L2 TL HT
theorem fold_cat (a : Array Nat) : ∀ (m : Nat) (acc : Array Nat), ((List.replicate m a).foldl (· ++ ·) acc).toList = acc.toList ++ (List.replicate m a.toList).flatten
  | 0, acc => by simp
  | m + 1, acc => by
    rw [List.replicate_succ, List.foldl_cons, fold_cat a m, List.replicate_succ, List.flatten_cons, Array.toList_append, List.append_assoc]
theorem tl_mul (z : Str) {n : Int} (hn : 0 ≤ n) : tl (Txt.mul z n) = (List.replicate n.toNat (tl z)).flatten := by
  obtain ⟨m, rfl⟩ : ∃ m : Nat, n = (m : Int) := ⟨n.toNat, by omega⟩
  rw [Int.toNat_natCast]
  unfold Txt.mul
  by_cases h0 : (m : Int) < 1
  · have e : m = 0 := by omega
    subst e
    rw [if_pos h0]
    rfl
  · rw [if_neg h0]
    by_cases h1 : ((m : Int) == 1 || z.length == 0) = true
    · rw [if_pos h1]
      rw [Bool.or_eq_true] at h1
      rcases h1 with h1 | h1
      · have e : m = 1 := by have := eq_of_beq h1; omega
        subst e
        simp
      · have e : tl z = [] := by
          have h2 : z.length = 0 := eq_of_beq h1
          rw [len_tl] at h2
          exact List.eq_nil_of_length_eq_zero h2
        rw [e]
        simp
    · rw [if_neg h1]
      show ((List.replicate (m : Int).toNat z.cps).foldl (· ++ ·) #[]).toList = _
      rw [fold_cat, Int.toNat_natCast]
      rfl
theorem tl_cut_take (z : Str) (n : Nat) : tl (cutS z none (some (n : Int))) = (tl z).take n := by
  show ((z.cps.toList.drop (HT.sIx z.length 0 none)).take (HT.sIx z.length z.length (some (n : Int)) - HT.sIx z.length 0 none)).toArray.toList = _
  rw [List.toList_toArray, sIx_nat, sIx_none, List.drop_zero]
  show (tl z).take (min n z.length - 0) = (tl z).take n
  rw [len_tl, Nat.sub_zero]
  by_cases h : n ≤ (tl z).length
  · rw [Nat.min_eq_left h]
  · rw [Nat.min_eq_right (by omega), List.take_length, List.take_of_length_le (by omega)]
theorem wordB_iff (z : Str) : wordB z = true ↔ (1 ≤ (tl z).length ∧ (tl z).length ≤ 12) ∧ ∀ c ∈ tl z, lowB c = true := by
  unfold wordB
  rw [Bool.and_eq_true, Bool.and_eq_true, decide_eq_true_eq, decide_eq_true_eq, List.all_eq_true, len_tl]
theorem lowB_lt {c : Nat} (h : lowB c = true) : 97 ≤ c ∧ c ≤ 122 := by
  have h1 := of_decide_eq_true h
  have e : ∀ c ∈ lows.cps.toList, 97 ≤ c ∧ c ≤ 122 := by decide +kernel
  exact e c h1
theorem wordB_Sm {z : Str} (h : wordB z = true) : Sm z := by
  obtain ⟨h1, h2⟩ := (wordB_iff z).mp h
  exact ⟨by rw [len_tl]; omega, (okS_iff z).mpr fun c hc => by have := lowB_lt (h2 c hc); omega⟩
/-- a part of a thrice repeated stem is a word -/
theorem stem_word {z : Str} (h4 : (tl z).length = 4) (hl : ∀ c ∈ tl z, lowB c = true) {n : Int} (h1 : 1 ≤ n) (h2 : n ≤ 12) : wordB (cutS (Txt.mul z 3) none (some n)) = true := by
  obtain ⟨m, rfl⟩ : ∃ m : Nat, n = (m : Int) := ⟨n.toNat, by omega⟩
  rw [wordB_iff, tl_cut_take, tl_mul z (by decide)]
  generalize hL : tl z = L at *
  have e : (List.replicate (3 : Int).toNat L).flatten = L ++ (L ++ L) := by
    show (List.replicate 3 L).flatten = _
    simp [List.replicate]
  rw [e]
  refine ⟨⟨?_, ?_⟩, fun c hc => ?_⟩
  · rw [List.length_take, List.length_append, List.length_append, h4]
    omega
  · rw [List.length_take, List.length_append, List.length_append, h4]
    omega
  · have := List.mem_of_mem_take hc
    rw [List.mem_append, List.mem_append] at this
    rcases this with h | h | h <;> exact hl c h
theorem len_mul (z : Str) {n : Int} (hn : 0 ≤ n) : (Txt.mul z n).length = n.toNat * z.length := by
  rw [len_tl, len_tl, tl_mul z hn]
  simp
end K84

/-! part K84R -/
set_option maxHeartbeats 2000000
/-! K84R: comparing nested data. -/
namespace K84
open PySem PySem.Spec PyProof.Rows L2
def Lay (n : Nat) (x : PyData) : Prop := x.canLay0 = true ∧ x.depth ≤ n
theorem lay_all {n : Nat} : ∀ {xs : List PyData}, (∀ x ∈ xs, Lay n x) → PyData.canLayAll0 xs = true ∧ PyData.depthAll xs ≤ n
  | [], _ => ⟨rfl, Nat.zero_le _⟩
  | x :: xs, h => by
    obtain ⟨h1, h2⟩ := h x List.mem_cons_self
    obtain ⟨h3, h4⟩ := lay_all fun y hy => h y (List.mem_cons_of_mem _ hy)
    refine ⟨?_, ?_⟩
    · show (PyData.canLay0 x && PyData.canLayAll0 xs) = true
      rw [h1, h3]
      rfl
    · show max x.depth (PyData.depthAll xs) ≤ n
      omega
theorem Lay.tup {n : Nat} {xs : List PyData} (h : ∀ x ∈ xs, Lay n x) : Lay (n + 1) (.tuple xs) := by
  obtain ⟨h1, h2⟩ := lay_all h
  exact ⟨h1, Nat.succ_le_succ h2⟩
theorem Lay.lst {n : Nat} {xs : List PyData} (h : ∀ x ∈ xs, Lay n x) : Lay (n + 1) (.list xs) := by
  obtain ⟨h1, h2⟩ := lay_all h
  exact ⟨h1, Nat.succ_le_succ h2⟩
theorem Lay.str {n : Nat} {z : Str} (h : okS z = true) : Lay n (.str z) := ⟨h, Nat.zero_le _⟩
theorem Lay.int {n : Nat} {i : Int} : Lay n (.int i) := ⟨rfl, Nat.zero_le _⟩
theorem Lay.non {n : Nat} : Lay n .none := ⟨rfl, Nat.zero_le _⟩
theorem Lay.sh {n : Nat} {x : PyData} (h : Lay n x) (hn : n ≤ 64 := by decide) : SeqAt.shaped x = true := by
  unfold SeqAt.shaped
  rw [h.1, decide_eq_true (Nat.le_trans h.2 hn)]
  rfl
theorem Lay.nm {p : Nm} (h : NmOk p) : Lay 1 (nameD p) := Lay.tup fun x hx => by
  simp at hx
  rcases hx with rfl | rfl | rfl
  · exact .str h.1.ok
  · exact .str h.2.ok
  · exact .int
theorem eqvAll_nil (xs : List PyData) : PyData.eqvAll xs [] = decide (xs.length = 0) := by
  cases xs <;> rfl
section
variable {Γ : Ctx} {k : Dv → Prop}
/-- names against () -/
theorem rd_neT0 {gs : List Nm} (h : ∀ g ∈ gs, NmOk g) (q : k (.d (.bool (!decide (gs.length = 0))))) : RD Γ (rNeD Γ.K) (.d (.tuple (gs.map nameD))) (.d (.tuple [])) k :=
  rd_ne (Lay.sh (n := 2) (.tup fun x hx => by
    obtain ⟨g, hg, rfl⟩ := List.mem_map.mp hx
    exact .nm (h g hg))) rfl (by
    show k (.d (.bool (!PyData.eqvAll (gs.map nameD) [])))
    rw [eqvAll_nil, List.length_map]
    exact q)
end
section
variable {α β : Type} {Γ : Ctx0} {F : Fam α} {N : Cn β} {q : Addr} {c : α} {b : β} {ss : Sd} {x : Prop} {tr : TA} {e : EndF (α × β)} {i : Nat}
/-- a method of an own list, whose arguments look at it -/
theorem fs_bm2 {r : V → List V → Hp → VK → Prop} (hq : ¬ F.own q) (hi : ss[i]? = some (some (.r q))) (h : WpFA Γ (F.cell q N) (c, b) tr ss (fun as c1 => ∃ b', Ch Γ.K r N c1.2 as b' ∧ e.nx ss (c1.1, b')) e.x) :
    WpFS Γ (F.cell q N) (c, b) (tDrop (tBM Γ.K "list" r (tVar i) tr)) ss e := fun Pr G H σ v s D kn kr kx => by
  obtain ⟨z, ez, rz⟩ := s.get hi
  have rz' : z = .ref q := rz
  subst rz'
  obtain ⟨vs, hv, rv⟩ := v.lf.2
  refine ⟨_, ez, .inl ⟨rfl, vs, SqL.of hv⟩, ?_⟩
  refine h Pr G H σ v s _ (fun as us c1 G1 H1 ⟨b', hc, hn⟩ g rs => ?_) kx
  obtain ⟨c1, b1⟩ := c1
  obtain ⟨hJ, vs1, hv1, rv1⟩ := g.vw.lf
  refine hc G1 H1 us vs1 q _ g.vw.sm rv1 rs hv1 (g.vw.pr q (v.ow q (.inr rfl))).1 fun vs' w r' => ?_
  have g4 : GoF F Pr G1 H1 c1 G1 H1 := ⟨⟨g.vw.sm, g.vw.pr, fun x hx => v.ow x (.inl hx), hJ⟩, Same.refl _, fun x o _ e => e⟩
  exact kn ss σ _ _ _ hn (g.trans (g4.put hq (v.ow q (.inr rfl)) (fun x hx => v.ow x (.inl hx)) r')) (s.mono g.g)
theorem fs_mid2 {α : Type} {Γ : Ctx0} {F : Fam α} {c : α} {ss : Sd} {t u : TS} {e : EndF α} (s1 : Sd) (c1 : α) (h1 : WpFS Γ F c t ss ⟨fun s' c' => s' = s1 ∧ c' = c1, fun _ _ => False, e.x⟩) (h2 : WpFS Γ F c1 u s1 e) : WpFS Γ F c (tSeq t u) ss e :=
  fs_seq fun Pr G H σ v s D kn kr kx => h1 Pr G H σ v s D (fun ss' σ' c' G' H' ⟨e1, e2⟩ g s' => kn ss' σ' c' G' H' (by subst e1 e2; exact h2) g s') (fun _ _ _ _ _ z => z.elim) kx
end
end K84

/-! part K84R2 -/
set_option maxHeartbeats 2000000
/-! K84R2: enumerate. -/
namespace K84
open PySem PySem.Spec PyProof.Rows L2
def enumD (xs : List PyData) : List PyData := xs.zipIdx.map fun p => .tuple [.int (p.2 : Nat), p.1]
theorem enum_get {xs : List PyData} {i : Nat} {d : Dv} (e : ((enumD xs).map Dv.d)[i]? = some d) : ∃ x, xs[i]? = some x ∧ d = .d (.tuple [.int (i : Nat), x]) := by
  unfold enumD at e
  rw [List.map_map, List.getElem?_map, List.getElem?_zipIdx] at e
  cases h : xs[i]? with
  | none =>
    rw [h] at e
    cases e
  | some x =>
    rw [h] at e
    refine ⟨x, rfl, ?_⟩
    have e' := (Option.some.inj e).symm
    rw [e']
    simp
section
variable {Γ : Ctx} {ss : Sd} {k : List Dv → Prop} {x : Prop} {ta : TA}
theorem enum_len (xs : List PyData) : ((enumD xs).map Dv.d).length = xs.length := by
  unfold enumD
  rw [List.length_map, List.length_map, List.length_zipIdx]
theorem wi_enum (h : WpA Γ ta ss (fun as => ∃ xs, as = [.d (.list xs)] ∧ k ((enumD xs).map Dv.d)) x) : WpI Γ (iEnum Γ.K ta) ss k x := fun Pr G H σ v s R hr hx =>
  h Pr G H σ v s _ (fun as vs G1 H1 ⟨xs, ea, hk⟩ g rs => by
    subst ea
    cases rs with
    | @cons v1 _ _ _ r t =>
      cases t
      have r1 : Dq Γ.K G1 v1 (.list xs) := r
      cases r1 with
      | @lst a us _ hs ha =>
        have l1 := dqAll_length ha
        have sL : ∀ {H2 : Hp}, Same G1 H2 → SqL Γ.K H2 a us := fun s2 => SqL.of (s2 _ _ hs)
        refine ⟨a, us, rfl, sL g.vw.sm, hr _ _ G1 H1 hk g fun H2 s2 i => ⟨fun hi => ?_, fun hi => ?_, fun d v' H' hd hy => .inr ?_⟩⟩
        · rw [enum_len] at hi
          exact ⟨us, us[i]'(by omega), sL s2, List.getElem?_eq_getElem (by omega)⟩
        · rw [enum_len] at hi
          exact ⟨us, sL s2, by omega⟩
        · obtain ⟨y, hy1, rfl⟩ := enum_get hd
          obtain ⟨T, u, ev, hT, eH, f1⟩ := hy
          subst ev
          obtain ⟨z1, e1, q1⟩ := dqAll_get ha hy1
          have g1 := f1 us (sL s2)
          rw [e1] at g1
          cases g1
          exact ⟨T, _, hT, eH, fun G e n => pair_dq e n (.int _) q1⟩) hx
end
end K84
namespace K84
open PySem PySem.Spec PyProof.Rows L2
section
variable {α β γ : Type} {Γ : Ctx0} {F : Fam α} {F' : Fam β} {c : α} {ss : Sd} {k : Bool → α → Prop} {x : Prop} {tt : TT}
theorem ft_sub {c' : β} {up : β → α} (s : FSub F' c' F c up) (h : WpFT Γ F' c' tt ss (fun d b => k d (up b)) x) : WpFT Γ F c tt ss k x := fun Pr G H σ v sl Q hq hx =>
  h Pr G H σ (s.vw v) sl Q (fun d b G' H' hk g => hq d (up b) G' H' hk (s.go v g)) fun z dd fs H' kp => hx z dd fs H' fun b o n e => kp b o (fun y => n (s.own b y)) e
/-- two cells change places -/
theorem FSub.swap {q1 q2 : Addr} {N : Cn β} {M : Cn γ} {b1 : β} {b2 : γ} : FSub ((F.cell q2 M).cell q1 N) ((c, b2), b1) ((F.cell q1 N).cell q2 M) ((c, b1), b2) (fun s => ((s.1.1, s.2), s.1.2)) :=
  ⟨fun b h => h.elim (fun h => h.elim (fun h => .inl (.inl h)) .inr) fun h => .inl (.inr h), fun h => ⟨⟨h.1.1, h.2⟩, h.1.2⟩, fun _ _ _ h => ⟨⟨h.1.1, h.2⟩, h.1.2⟩⟩
end
end K84

/-! part K84J -/
set_option maxHeartbeats 2000000
/-! K84J: a dict whose keys are names, and its keys in order. -/
namespace K84
open PySem PySem.Spec PyProof.Rows L2
theorem perm_of_map {α β : Type} {f : α → β} {out l : List β} (h : out.Perm l) : ∀ {ns : List α}, l = ns.map f → ∃ os : List α, os.Perm ns ∧ out = os.map f := by
  induction h with
  | nil =>
    intro ns e
    cases ns with
    | nil => exact ⟨[], .nil, rfl⟩
    | cons n r => cases e
  | cons x h ih =>
    intro ns e
    cases ns with
    | nil => cases e
    | cons n r =>
      rw [List.map_cons] at e
      injection e with e1 e2
      obtain ⟨os, h1, h2⟩ := ih e2
      exact ⟨n :: os, .cons n h1, by rw [List.map_cons, ← e1, ← h2]⟩
  | swap x y l =>
    intro ns e
    match ns, e with
    | n :: m :: r, e =>
      simp only [List.map_cons] at e
      injection e with e1 e2
      injection e2 with e2 e3
      exact ⟨m :: n :: r, .swap n m r, by rw [List.map_cons, List.map_cons, ← e1, ← e2, ← e3]⟩
  | trans h1 h2 ih1 ih2 =>
    intro ns e
    obtain ⟨os, p1, e1⟩ := ih2 e
    obtain ⟨os2, p2, e2⟩ := ih1 e1
    exact ⟨os2, p2.trans p1, e2⟩
/-- a dict whose keys are tuples, told by its keys and where they stand -/
def dOk (P : Program) (w : World) (a : Addr) (xs : List (List Key × Addr)) (h : Heap) : Prop := xs.length ≤ sizeLine ∧ (a == sysModules) = false ∧ ∃ ys : List (List Key × Addr × Value), ys.map (fun y => (y.1, y.2.1)) = xs ∧
  ∃ o es ep, h.get? a = some o ∧ o.ExactDict ∧ o.data = .dict es ep ∧ es.toList = ys.map (entryOfKey (tupleKind (mixKind P w))) ∧ (ys.map (·.1)).Nodup
def dO (P : Program) (w : World) (a : Addr) (xs : List (List Key × Addr)) : HO := .ext (dOk P w a xs)
section
variable {P : Program} {w : World} {H : Hp} {h : Heap} {a : Addr} {xs : List (List Key × Addr)}
theorem dO_ok (hφ : dOk P w a xs h) : ObjOk P w H h a (dO P w a xs) :=
  ⟨hφ, by
    obtain ⟨_, _, _, _, o, _, _, ho, _⟩ := hφ
    exact ⟨o, ho⟩, fun h1 h2 ⟨z, hs, ys, ey, o, es, ep, ho, r⟩ k => ⟨z, hs, ys, ey, o, es, ep, k o ho, r⟩⟩
theorem dO_at (hok : HOk P w H h) (e : H a = some (dO P w a xs)) : dOk P w a xs h := (show ObjOk P w H h a (dO P w a xs) from hok a _ e).1
end
def tDNewE (P : Program) (w : World) : TE := fun _ H Q => ∀ p, H p = none → Q (.ref p) (upd H p (dO P w p []))
theorem pe_dnewE {X : Cx} {pos : Pos} (P : Program) (w : World) (eP : X.prog = P := by rfl) (ew : X.w = w := by rfl) : PE X (.Dict [] [] pos) (tDNewE P w) := by
  subst eP
  subst ew
  exact ⟨fun pins s σ H Q I h => wpAny_Dict_empty ⟨.ref s.heap.objs.size, _, I.laid (a := s.heap.objs.size) (o := dO X.prog X.w s.heap.objs.size []) (t' := s.toks) (fun _ _ q => Heap.get?_push_of_some _ q) (Nat.le_refl _)
    (dO_ok ⟨Nat.zero_le _, beq_eq_false_iff_ne.mpr (Ne.symm (Nat.ne_of_lt I.big)), [], rfl, _, #[], 0, Heap.get?_push_size _ rfl, ⟨rfl, rfl, rfl⟩, rfl, rfl, List.nodup_nil⟩), rfl, h _ (I.hok.fresh (Nat.le_refl _))⟩⟩
open Classical in
noncomputable def putE (xs : List (List Key × Addr)) (k : List Key) (b : Addr) : List (List Key × Addr) := if k ∈ xs.map (·.1) then xs else xs ++ [(k, b)]
theorem putE_len (xs : List (List Key × Addr)) (k : List Key) (b : Addr) : (putE xs k b).length ≤ xs.length + 1 := by
  unfold putE
  split
  · omega
  · rw [List.length_append]
    exact Nat.le_refl _
open Classical in
theorem atKey_some (ys : List (List Key × Addr × Value)) (k : List Key) : (atKey ys k).isSome = decide (k ∈ ys.map (·.1)) := by
  unfold atKey
  rw [Option.isSome_map]
  induction ys with
  | nil => simp
  | cons y ys ih =>
    rw [List.find?_cons]
    by_cases h : y.1 = k
    · simp [h]
    · have h' : ¬ k = y.1 := fun e => h e.symm
      simp only [h, decide_false, Bool.false_eq_true, ↓reduceIte] at ih ⊢
      rw [ih]
      simp [h']
open Classical in
theorem stored_put (ys : List (List Key × Addr × Value)) (k : List Key) (b : Addr) (v : Value) : (storedH ys k b v).map (fun y => (y.1, y.2.1)) = putE (ys.map fun y => (y.1, y.2.1)) k b := by
  unfold storedH putE
  have e : (ys.map fun y => (y.1, y.2.1)).map (·.1) = ys.map (·.1) := by rw [List.map_map]; rfl
  rw [atKey_some, e]
  by_cases h : k ∈ ys.map (·.1)
  · rw [decide_eq_true h, if_pos rfl, if_pos h, List.map_map]
    refine List.map_congr_left fun y _ => ?_
    show ((putAt k v y).1, (putAt k v y).2.1) = _
    unfold putAt
    split <;> rfl
  · rw [decide_eq_false h, if_neg (by decide), if_neg h, List.map_append]
    rfl
section
variable {X : Cx} {pins : List (Addr × Obj)} {σ : L2.St} {H : Hp} {s : Shared}
theorem key_sq (I : Inv X pins σ H s) {b : Addr} {k : List Key} (h : SqT X.K H b (k.map kV)) : (tupleKind (mixKind X.prog X.w)).is s.heap k b := by
  obtain ⟨its, r, ⟨o, h1, h2, n, h3⟩, _⟩ := I.tuple h
  exact ⟨o, its.toArray, n, h1, h2, h3, by simpa using items_are r⟩
theorem dO_dict (I : Inv X pins σ H s) {a : Addr} {xs : List (List Key × Addr)} (e : H a = some (dO X.prog X.w a xs)) (hk : ∀ x ∈ xs, SqT X.K H x.2 (x.1.map kV)) : xs.length ≤ sizeLine ∧ (a == sysModules) = false ∧ ∃ ys : List (List Key × Addr × Value), ys.map (fun y => (y.1, y.2.1)) = xs ∧ s.heap.DictOfH (tupleKind (mixKind X.prog X.w)) a ys := by
  obtain ⟨z, hs, ys, ey, o, es, ep, ho, hx, hd, he, hn⟩ := dO_at I.hok e
  refine ⟨z, hs, ys, ey, o, es, ep, ho, hx, hd, he, fun y hy => key_sq I (hk (y.1, y.2.1) ?_), hn⟩
  rw [← ey]
  exact List.mem_map.mpr ⟨y, hy, rfl⟩
end
/-- d[y] = v -/
def sDPutE (K : PySem.W.Frag) (P : Program) (w : World) (td ty tv : TE) : TS := fun D σ H => tv σ H fun v H1 => td σ H1 fun x H2 => ty σ H2 fun y H3 => ∃ a b k xs, x = .ref a ∧ y = .ref b ∧ H3 a = some (dO P w a xs) ∧ SqT K H3 b (k.map kV) ∧
  (∀ x ∈ xs, SqT K H3 x.2 (x.1.map kV)) ∧ xs.length < sizeLine ∧ D.nx σ (upd H3 a (dO P w a (putE xs k b)))
theorem ps_dputE {X : Cx} {o i value : Expr} {pos pos' : Pos} {td ty tv : TE} (K : PySem.W.Frag) (P : Program) (w : World) (hu : X.A.units + 1 < cLine) (ho : PE X o td) (hi : PE X i ty) (hv : PE X value tv)
    (hs : swapsWith value (some (.Subscript o i pos')) pos.line X.env = pure false := by rfl) (eK : X.K = K := by rfl) (eP : X.prog = P := by rfl) (ew : X.w = w := by rfl) : PS X (.Assign [.Subscript o i pos'] value pos) (sDPutE K P w td ty tv) := by
  subst eK
  subst eP
  subst ew
  refine ⟨fun pins s σ H D I h => ?_⟩
  refine wpAny_Assign_Subscript (thn (hv.run pins s σ H _ I h) fun r s1 ⟨v, H1, I1, rv, q1⟩ => thn (ho.run pins s1 σ H1 _ I1 q1) fun u s2 ⟨x, H2, I2, rx, q2⟩ => thn (hi.run pins s2 σ H2 _ I2 q2) fun iv s3 ⟨y, H3, I3, ry, a, b, k, xs, ex, ey, g, hk, hks, hl, q3⟩ => ?_) hs
  subst ex
  subst ey
  obtain rfl : u = Value.ref a := rx
  obtain rfl : iv = Value.ref b := ry
  obtain ⟨z, hd, ys, ey, dd⟩ := dO_dict I3 g hks
  have hz : ys.length ≤ sizeLine := by
    have e := congrArg List.length ey
    rw [List.length_map] at e
    omega
  refine wpAny_setItem_heap (hsz := hz) (tupleKind_room_in1 hu) (key_sq I3 hk) dd fun h' dd' hs' => ?_
  obtain ⟨q, es, ep, hq, h2, h3, h4, _, h5⟩ := dd'
  have hn : dOk X.prog X.w a (putE xs k b) h' := ⟨by have := putE_len xs k b; omega, hd, _, by rw [stored_put, ey], q, es, ep, hq, h2, h3, h4, h5⟩
  exact ⟨σ, _, d_write I3 (by rw [g]; exact True.intro) hs' ⟨q, hq⟩ (dO_ok hn), q3⟩

/-! ### sorted of names -/
def NmTup (h : Heap) (v : Value) (x y : Str) (n : Int) : Prop := ∃ a o t u k m, v = .ref a ∧ h.get? a = some o ∧ o.cls = .type "tuple" ∧ o.data = .seq #[.str x t, .str y u, .int n k] m
theorem NmTup.keeps {h h' : Heap} {v : Value} {x y : Str} {n : Int} (p : NmTup h v x y n) (k : ∀ b o, h.get? b = some o → o.cls = .type "tuple" → h'.get? b = some o) : NmTup h' v x y n := by
  obtain ⟨a, o, t, u, j, m, e, ho, hc, hd⟩ := p
  exact ⟨a, o, t, u, j, m, e, k _ _ ho hc, hc, hd⟩
section
variable {prog : Program} {w : World} {A : Around} {E : Value → Shared → Prop} {s : Shared}
theorem nm_tot {vs : List Value} (hp : ∀ v ∈ vs, ∃ x y n, NmTup s.heap v x y n) : Srt.Tot prog w A s (tuples' true) (fun p => p.1 ∈ vs) := by
  intro p q hm hm'
  obtain ⟨x, y, n, a, o, t, u, j, m, e, ho, hc, hd⟩ := hp _ hm
  obtain ⟨x', y', n', a', o', t', u', j', m', e', ho', hc', hd'⟩ := hp _ hm'
  rw [e, e']
  by_cases hx : x = x'
  · by_cases hy : y = y'
    · by_cases hn : n = n'
      · refine ⟨false, PySem.W.kat_lt ho hd ho' hd' ?_⟩
        show PySem.W.KatLex prog w A true (decide (3 < 3)) _ [(.str x t, .str x' t'), (.str y u, .str y' u'), (.int n j, .int n' j')] 0 s
        refine PySem.W.kat_cons (SeqAt.EqAt.str_str x t x' t' prog w _ _ (PySem.W.kat_go (fun _ => ?_) fun z => absurd hx (by simpa using z)))
        refine PySem.W.kat_yes (PySem.W.kat_cons (SeqAt.EqAt.str_str y u y' u' prog w _ _ (PySem.W.kat_go (fun _ => ?_) fun z => absurd hy (by simpa using z))))
        refine PySem.W.kat_yes (PySem.W.kat_cons (SeqAt.EqAt.int_int n j n' j' prog w _ _ (PySem.W.kat_go (fun _ => ?_) fun z => absurd hn (by simpa using z))))
        exact PySem.W.kat_yes (PySem.W.kat_nil ⟨rfl, rfl⟩)
      · refine ⟨decide (n < n'), PySem.W.kat_lt ho hd ho' hd' ?_⟩
        show PySem.W.KatLex prog w A true (decide (3 < 3)) _ [(.str x t, .str x' t'), (.str y u, .str y' u'), (.int n j, .int n' j')] 0 s
        refine PySem.W.kat_cons (SeqAt.EqAt.str_str x t x' t' prog w _ _ (PySem.W.kat_go (fun _ => ?_) fun z => absurd hx (by simpa using z)))
        refine PySem.W.kat_yes (PySem.W.kat_cons (SeqAt.EqAt.str_str y u y' u' prog w _ _ (PySem.W.kat_go (fun _ => ?_) fun z => absurd hy (by simpa using z))))
        refine PySem.W.kat_yes (PySem.W.kat_cons (SeqAt.EqAt.int_int n j n' j' prog w _ _ (PySem.W.kat_go (fun z => absurd (by simpa using z) hn) fun _ => ?_)))
        exact PySem.W.kat_no (oneLt_any_int ⟨rfl, rfl⟩)
    · refine ⟨decide (y.cps.toList < y'.cps.toList), PySem.W.kat_lt ho hd ho' hd' ?_⟩
      show PySem.W.KatLex prog w A true (decide (3 < 3)) _ [(.str x t, .str x' t'), (.str y u, .str y' u'), (.int n j, .int n' j')] 0 s
      refine PySem.W.kat_cons (SeqAt.EqAt.str_str x t x' t' prog w _ _ (PySem.W.kat_go (fun _ => ?_) fun z => absurd hx (by simpa using z)))
      refine PySem.W.kat_yes (PySem.W.kat_cons (SeqAt.EqAt.str_str y u y' u' prog w _ _ (PySem.W.kat_go (fun z => absurd (by simpa using z) hy) fun _ => ?_)))
      exact PySem.W.kat_no (oneLt_any_str ⟨rfl, rfl⟩)
  · refine ⟨decide (x.cps.toList < x'.cps.toList), PySem.W.kat_lt ho hd ho' hd' ?_⟩
    show PySem.W.KatLex prog w A true (decide (3 < 3)) _ [(.str x t, .str x' t'), (.str y u, .str y' u'), (.int n j, .int n' j')] 0 s
    refine PySem.W.kat_cons (SeqAt.EqAt.str_str x t x' t' prog w _ _ (PySem.W.kat_go (fun z => absurd (by simpa using z) hx) fun _ => ?_))
    exact PySem.W.kat_no (oneLt_any_str ⟨rfl, rfl⟩)
theorem nm_firsts {h : Heap} : ∀ {vs : List Value}, (∀ v ∈ vs, ∃ x y n, NmTup h v x y n) → ∃ fs : List Value, PySem.W.KatTups h vs fs ∧ fs.length = vs.length ∧ ∀ f ∈ fs, ∃ x t, f = Value.str x t
  | [], _ => ⟨[], PySem.W.KatTups.nil, rfl, fun _ hm => by simp at hm⟩
  | v :: vs, hp => by
    obtain ⟨fs, h1, h2, h3⟩ := nm_firsts (vs := vs) fun v' hm => hp v' (List.mem_cons_of_mem _ hm)
    obtain ⟨x, y, n, a, o, t, u, j, m, e, ho, hc, hd⟩ := hp v List.mem_cons_self
    subst e
    refine ⟨.str x t :: fs, PySem.W.KatTups.cons ho hc hd rfl h1, by rw [List.length_cons, List.length_cons, h2], fun f hm => ?_⟩
    rcases List.mem_cons.mp hm with rfl | hm
    · exact ⟨x, t, rfl⟩
    · exact h3 f hm
theorem nm_sortable {a : Addr} {vs : List Value} (h0 : 0 < vs.length) (hp : ∀ v ∈ vs, ∃ x y n, NmTup s.heap v x y n) (ha : ∀ o, s.heap.get? a = some o → o.cls ≠ .type "tuple") : Srt.Sortable prog w A s a vs := by
  intro h' keep
  have hp' : ∀ v ∈ vs, ∃ x y n, NmTup h' v x y n := fun v hm => by
    obtain ⟨x, y, n, p⟩ := hp v hm
    exact ⟨x, y, n, p.keeps fun b o e c => keep b o (fun z => by subst z; exact ha o e c) e⟩
  obtain ⟨fs, h1, h2, h3⟩ := nm_firsts hp'
  refine ⟨tuples' true, fun Q E hq => ?_, nm_tot hp'⟩
  refine PySem.W.kat_kind (T := .type "str") h1 (by omega) (fun f hm => ?_) (by rfl) ?_
  · obtain ⟨x, t, rfl⟩ := h3 f hm
    exact PySem.W.Looks.now
  · have e : (Value.type "str" != Value.type "tuple") = true := by first | decide +kernel | rfl | decide
    rw [e]
    exact hq
end
abbrev keyN (p : Nm) : List Key := [.inr p.1, .inr p.2.1, .inl p.2.2]
def rSortE (K : PySem.W.Frag) (P : Program) (w : World) : List V → Hp → VK → Prop := fun vs H Q => ∃ (a : Addr) (ns : List (Nm × Addr)), vs = [.ref a] ∧ H a = some (dO P w a (ns.map fun n => (keyN n.1, n.2))) ∧ (∀ n ∈ ns, SqT K H n.2 ((keyN n.1).map kV)) ∧
  ∀ (os : List (Nm × Addr)) p, os.Perm ns → H p = none → Q (.ref p) (upd H p (.lst (os.map fun n => V.ref n.2)))
theorem call_sortE0 {X : Cx} (hcalm : X.calm = true) : CallR X (.builtin "sorted") (rSortE X.K X.prog X.w) := by
  intro pins s σ H xs us Q I r q
  obtain ⟨a, ns, ex, ha, hns, q⟩ := q
  subst ex
  obtain ⟨u, eu, rx⟩ := vals1 r
  subst eu
  cases rx
  obtain ⟨z, lo, ys, ey, o, es, ep, ho, hx, hdt, he, hn⟩ := dO_at I.hok ha
  have l1 : es.size = ys.length := size_of_entries he
  have l2 : ys.length = ns.length := by
    have e := congrArg List.length ey
    rw [List.length_map, List.length_map] at e
    exact e
  rw [List.length_map] at z
  have h16 : es.size ≤ sizeLine := by omega
  refine Calls.call_function_entry PyProof.Rows.kind_sorted PyProof.Rows.plain_sorted PyProof.Rows.entry_sorted (PyProof.Rows.args_sorted1 _) ?_
  unfold Builtin.«sorted»
  refine wpAny_bind (m := checkCount "sorted" 1 1 _) (wpAny_pure ?_)
  refine wpAny_bind (PySem.W.kdu_collect (A := X.A.in1) (kdl_raw lo hx hdt) (I.ok.hd hcalm) ho h16 fun h' tk acc hk hacc => ?_)
  have ea : acc.toList = ns.map fun n => Value.ref n.2 := by
    have hl : acc.toList.length = ns.length := by rw [Array.length_toList, hacc.1]; omega
    have ek : ns.map (fun n => Value.ref n.2) = ys.map fun y => Value.ref y.2.1 := by
      have e := congrArg (List.map fun x : List Key × Addr => Value.ref x.2) ey
      rw [List.map_map, List.map_map] at e
      exact e.symm
    rw [ek]
    apply List.ext_getElem?
    intro j
    rw [List.getElem?_map]
    cases hj : acc.toList[j]? with
    | none =>
      have h1 := List.getElem?_eq_none_iff.mp hj
      rw [List.getElem?_eq_none (by omega)]
      all_goals rfl
    | some v =>
      obtain ⟨en, hen, hv⟩ := hacc.2 j v (by rw [← Array.getElem?_toList]; exact hj)
      have qe := entry_at he j
      rw [hen] at qe
      cases hb : ys[j]? with
      | none =>
        rw [hb] at qe
        exact nomatch (show some en = none from qe)
      | some b =>
        rw [hb] at qe
        have e2 : en = entryOfKey (tupleKind (mixKind X.prog X.w)) b := Option.some.inj qe
        rw [hv, e2]
        all_goals rfl
  have I1 : Inv X pins σ H { s with heap := h', toks := tk } := I.kept hk
  have hal : acc.toList.length = ns.length := by rw [ea, List.length_map]
  refine wpAny_bind (wpAny_newList ?_ (by rw [hal]; omega))
  have hoL : (h'.push (seqObj "list" acc.toList.toArray 0)).get? h'.objs.size = some (seqObj "list" acc.toList.toArray 0) := Heap.get?_push_size _ rfl
  have hnm : ∀ v ∈ acc.toList, ∃ x y n, NmTup (h'.push (seqObj "list" acc.toList.toArray 0)) v x y n := fun v hv => by
    rw [ea] at hv
    obtain ⟨n, hn1, rfl⟩ := List.mem_map.mp hv
    obtain ⟨its, r2, ⟨ob, h1, h2, m, h3⟩, _⟩ := I1.tuple (hns n hn1)
    obtain ⟨u1, u2, u3, eits, r1, r2', r3⟩ : ∃ u1 u2 u3, its = [u1, u2, u3] ∧ RelV (.str n.1.1) u1 ∧ RelV (.str n.1.2.1) u2 ∧ RelV (.int n.1.2.2) u3 := by
      cases r2 with
      | cons a1 b1 =>
        cases b1 with
        | cons a2 b2 =>
          cases b2 with
          | cons a3 b3 =>
            cases b3
            exact ⟨_, _, _, rfl, a1, a2, a3⟩
    subst eits
    obtain ⟨t1, rfl⟩ := r1
    obtain ⟨t2, rfl⟩ := r2'
    obtain ⟨t3, rfl⟩ := r3
    exact ⟨n.1.1, n.1.2.1, n.1.2.2, n.2, ob, t1, t2, t3, m, rfl, Heap.get?_push_of_some _ h1, h2, h3⟩
  show wpAny _ _ _ _ _ { s with heap := h'.push (seqObj "list" acc.toList.toArray 0), toks := tk }
  refine wpAny_bind (wpAny_holding (wpAny_call_entry PyProof.Rows.slot_list_sort ⟨_, hoL, rfl⟩ PyProof.Rows.entry_list_sort
    (Srt.list_sort_any (s := { s with heap := h'.push (seqObj "list" acc.toList.toArray 0), toks := tk }) hoL (by rw [hal]; omega) (fun h2 => nm_sortable (s := { s with heap := h'.push (seqObj "list" acc.toList.toArray 0), toks := tk }) (by omega) hnm fun ob e => ?_) fun out hp => ⟨_, rfl, ?_⟩)
    (PyProof.Rows.args_list_sort _)))
  · have e' : some ob = some (seqObj "list" acc.toList.toArray 0) := e.symm.trans hoL
    cases e'
    intro c
    exact absurd (Value.type.inj c) (by decide)
  obtain ⟨os, hp1, hp2⟩ := perm_of_map hp ea
  obtain ⟨e', he'⟩ := PyProof.Rows.sortedHeap_at (vs := acc.toList) (out := out.toArray) hoL
  have hv : Vals (os.map fun n => V.ref n.2) out := by
    rw [hp2]
    have e1 : (os.map fun n => V.ref n.2) = (os.map fun n => n.2).map V.ref := by rw [List.map_map]; rfl
    have e2 : (os.map fun n => Value.ref n.2) = (os.map fun n => n.2).map Value.ref := by rw [List.map_map]; rfl
    rw [e1, e2]
    exact vals_refs _
  have hlen : (os.map fun n => V.ref n.2).length ≤ sizeLine := by
    rw [List.length_map, hp1.length_eq]
    omega
  refine wpAny_pure ⟨_, rfl, .ref h'.objs.size, upd H h'.objs.size (.lst (os.map fun n => V.ref n.2)), I1.laid (t' := tk) (fun b u e => ?_) (Nat.le_refl _)
    (show ObjOk X.prog X.w _ _ _ (.lst (os.map fun n => V.ref n.2)) from ⟨hlen, out, e', hv, he'⟩), rfl, q os _ hp1 (I1.hok.fresh (Nat.le_refl _))⟩
  have hb : b < h'.objs.size := Heap.lt_size e
  rw [PyProof.Rows.sortedHeap_old (Nat.ne_of_lt hb) (by rw [size_push']; exact Nat.lt_succ_of_lt hb)]
  exact Heap.get?_push_of_some _ e
theorem call_sortE {X : Cx} (K : PySem.W.Frag) (P : Program) (w : World) (hcalm : X.calm = true) (eK : X.K = K := by rfl) (eP : X.prog = P := by rfl) (ew : X.w = w := by rfl) : CallR X (.builtin "sorted") (rSortE K P w) := by
  subst eK
  subst eP
  subst ew
  exact call_sortE0 hcalm

/-! ### the dict as a cell -/
section
variable {α : Type} {P : Program} {w : World} {K : PySem.W.Frag}
def Fam.dcell (F : Fam α) (K : PySem.W.Frag) (P : Program) (w : World) (q : Addr) : Fam (α × List Nm) := ⟨fun b => F.own b ∨ b = q, fun c G H => F.J c.1 G H ∧ ∃ ns : List (Nm × Addr), ns.map (·.1) = c.2 ∧ H q = some (dO P w q (ns.map fun n => (keyN n.1, n.2))) ∧ ∀ n ∈ ns, SqT K G n.2 ((keyN n.1).map kV),
  fun ⟨h, ns, en, e, r⟩ s k => ⟨F.st h s fun b o hb => k b o (.inl hb), ns, en, k _ _ (.inr rfl) e, fun n hn => sqt_mono s (r n hn)⟩⟩
variable {F : Fam α} {q : Addr} {c : α} {b : List Nm}
theorem FSub.dcell (hq : ¬ F.own q) : FSub F c (F.dcell K P w q) (c, b) (fun d => (d, b)) :=
  ⟨fun _ h => .inl h, fun h => h.1, fun ⟨_, ns, en, e, r⟩ s k h => ⟨h, ns, en, k _ _ hq e, fun n hn => sqt_mono s (r n hn)⟩⟩
end
end K84

/-! part K84J2 -/
set_option maxHeartbeats 2000000
/-! K84J2: rules of the dict of names. -/
namespace K84
open PySem PySem.Spec PyProof.Rows L2
def putN (ns : List Nm) (n : Nm) : List Nm := if n ∈ ns then ns else ns ++ [n]
theorem keyN_inj {a b : Nm} (h : keyN a = keyN b) : a = b := by
  obtain ⟨a1, a2, a3⟩ := a
  obtain ⟨b1, b2, b3⟩ := b
  simp only [keyN, List.cons.injEq, Sum.inr.injEq, Sum.inl.injEq, and_true] at h
  obtain ⟨h1, h2, h3⟩ := h
  subst h1
  subst h2
  subst h3
  rfl
def putM (ms : List (Nm × Addr)) (n : Nm) (a : Addr) : List (Nm × Addr) := if n ∈ ms.map (·.1) then ms else ms ++ [(n, a)]
theorem putM_fst (ms : List (Nm × Addr)) (n : Nm) (a : Addr) : (putM ms n a).map (·.1) = putN (ms.map (·.1)) n := by
  unfold putM putN
  split
  · rfl
  · rw [List.map_append]
    rfl
theorem putM_put (ms : List (Nm × Addr)) (n : Nm) (a : Addr) : putE (ms.map fun n => (keyN n.1, n.2)) (keyN n) a = (putM ms n a).map fun n => (keyN n.1, n.2) := by
  unfold putE putM
  have e : keyN n ∈ (ms.map fun n => (keyN n.1, n.2)).map (·.1) ↔ n ∈ ms.map (·.1) := by
    rw [List.map_map]
    constructor
    · intro h
      obtain ⟨m, hm, e⟩ := List.mem_map.mp h
      exact List.mem_map.mpr ⟨m, hm, keyN_inj e⟩
    · intro h
      obtain ⟨m, hm, e⟩ := List.mem_map.mp h
      exact List.mem_map.mpr ⟨m, hm, congrArg keyN e⟩
  by_cases h : n ∈ ms.map (·.1)
  · rw [if_pos h, if_pos (e.mpr h)]
  · rw [if_neg h, if_neg (fun z => h (e.mp z)), List.map_append]
    rfl
theorem putM_mem {ms : List (Nm × Addr)} {n : Nm} {a : Addr} {x : Nm × Addr} (h : x ∈ putM ms n a) : x ∈ ms ∨ x = (n, a) := by
  unfold putM at h
  split at h
  · exact .inl h
  · rcases List.mem_append.mp h with h | h
    · exact .inl h
    · exact .inr (List.mem_singleton.mp h)
theorem putN_len (ns : List Nm) (n : Nm) : (putN ns n).length ≤ ns.length + 1 := by
  unfold putN
  split
  · omega
  · rw [List.length_append]
    exact Nat.le_refl _
theorem putN_mem {ns : List Nm} {n x : Nm} (h : x ∈ putN ns n) : x ∈ ns ∨ x = n := by
  unfold putN at h
  split at h
  · exact .inl h
  · rcases List.mem_append.mp h with h | h
    · exact .inl h
    · exact .inr (List.mem_singleton.mp h)
theorem name_dq {K : PySem.W.Frag} {G : Hp} {a : Addr} {n : Nm} (h : SqT K G a ((keyN n).map kV)) : Dq K G (.ref a) (nameD n) := .tup h (.cons (.str _) (.cons (.str _) (.cons (.int _) .nil)))
theorem dq_name {K : PySem.W.Frag} {G : Hp} {v : V} {n : Nm} (h : Dq K G v (nameD n)) : ∃ a, v = .ref a ∧ SqT K G a ((keyN n).map kV) := by
  cases h with
  | @tup a vs _ hs ha =>
    refine ⟨a, rfl, ?_⟩
    cases ha with
    | cons h1 t =>
      cases h1
      cases t with
      | cons h2 t =>
        cases h2
        cases t with
        | cons h3 t =>
          cases h3
          cases t
          exact hs
section
variable {α : Type} {P : Program} {w : World} {Γ : Ctx0} {F : Fam α} {q : Addr} {c : α} {ns : List Nm} {ss : Sd} {i : Nat} {x : Prop} {ty : TE} {u : TS}
theorem dO_solid {a : Addr} {xs : List (List Key × Addr)} : Solid (some (dO P w a xs)) := ⟨_, rfl, fun fs y => nomatch (show HO.ext (dOk P w a xs) = .xd fs from y)⟩
/-- name = {}; the rest knows it as its own -/
theorem fs_newE {e : EndF α} (h : ∀ q, ¬ F.own q → WpFS Γ (F.dcell Γ.K P w q) (c, []) u (ss.set i (some (.r q))) ⟨fun ss' s => e.nx ss' s.1, fun d s => e.rt d s.1, e.x⟩) :
    WpFS Γ F c (tSeq (tAsg (tDNewE P w) (gName i)) u) ss e := fun Pr G H σ v s D kn kr kx => by
  intro p hp
  have gp : G p = none := v.sm.free hp
  have np : ¬ Pr p := fun z => (v.pr p z).2.ne hp
  have no : ¬ F.own p := fun z => np (v.ow p z)
  have hs : Solid (upd H p (dO P w p []) p) := by
    rw [upd_same]
    exact dO_solid
  have g1 : Go (F.at c) Pr G H G (upd H p (dO P w p [])) := v.own hp
  have w0 := g1.vw.more gp hs
  have w1 : Vw ((F.dcell Γ.K P w p).at (c, [])) (fun y => Pr y ∨ y = p) G (upd H p (dO P w p [])) := w0.as (fun y hy => hy.elim (fun z => .inl (v.ow y z)) .inr) ⟨g1.vw.lf, [], rfl, upd_same, fun _ z => nomatch z⟩
  have keep : ∀ y o, H y = some o → y ≠ p := fun y o e z => by
    rw [z, hp] at e
    cases e
  have back : ∀ c2 b2 G2 H2, GoF (F.dcell Γ.K P w p) (fun y => Pr y ∨ y = p) G (upd H p (dO P w p [])) (c2, b2) G2 H2 → GoF F Pr G H c2 G2 H2 := fun c2 b2 G2 H2 g2 =>
    ⟨⟨g2.vw.sm, fun y hy => g2.vw.pr y (.inl hy), fun y hy => v.ow y hy, g2.vw.lf.1⟩, g2.g, fun y o n e => g2.h y o (fun w => w.elim n (keep y o e)) (by rw [upd_ne (keep y o e)]; exact e)⟩
  exact h p no _ G _ _ w1 (Sl.set (d := .r p) rfl i s) D (fun ss' σ' c2 G2 H2 hn g2 s2 => kn ss' σ' c2.1 G2 H2 hn (back c2.1 c2.2 G2 H2 g2) s2) (fun d w' c2 G2 H2 hd g2 rd => kr d w' c2.1 G2 H2 hd (back c2.1 c2.2 G2 H2 g2) rd)
    fun z dd fs H' kp => kx z dd fs H' fun y o n e => kp y o (fun w => w.elim n (keep y o e)) (by rw [upd_ne (keep y o e)]; exact e)
/-- d[name] = True -/
theorem fs_dput {e : EndF (α × List Nm)} (hq : ¬ F.own q) (hi : ss[i]? = some (some (.r q))) (hl : ns.length ≤ 1000) (h : Wp (Γ.at Mode.no) ty ss (fun d => ∃ n, d = .d (nameD n) ∧ e.nx ss (c, putN ns n)) e.x) :
    WpFS Γ (F.dcell Γ.K P w q) (c, ns) (sDPutE Γ.K P w (tVar i) ty (tC (.bl true))) ss e := fun Pr G H σ v s D kn kr kx => by
  obtain ⟨z, ez, rz⟩ := s.get hi
  have rz' : z = .ref q := rz
  subst rz'
  refine ⟨_, ez, ?_⟩
  refine h Pr G H σ (v.sub .no) s _ (fun d w1 G1 H1 ⟨n, ed, hn⟩ g rd => ?_) fun z dd fs H' kp => kx z dd fs H' fun b o n e => kp b o (fun y => y) e
  subst ed
  obtain ⟨a, ea, hs⟩ := dq_name (show Dq Γ.K G1 w1 (nameD n) from rd)
  subst ea
  have g1 : GoF (F.dcell Γ.K P w q) Pr G H (c, ns) G1 H1 := .of (g.sub .no v)
  obtain ⟨hJ, ms, em, hv, rm⟩ := g1.vw.lf
  have gq : G1 q = none := (g1.vw.pr q (v.ow q (.inr rfl))).1
  have hml : (ms.map fun n => (keyN n.1, n.2)).length < sizeLine := by
    have e := congrArg List.length em
    rw [List.length_map] at e ⊢
    have e' : ms.length = ns.length := e
    rw [sizeLine_eq]
    omega
  refine ⟨q, a, keyN n, _, rfl, rfl, hv, sqt_mono g.vw.sm hs, fun y hy => ?_, hml, ?_⟩
  · obtain ⟨m, hm, rfl⟩ := List.mem_map.mp hy
    exact sqt_mono g.vw.sm (rm m hm)
  rw [putM_put]
  refine kn ss σ (c, putN ns n) G1 _ hn (g1.trans ⟨⟨fun y o e => ?_, fun y hy => ?_, v.ow, ?_⟩, Same.refl _, fun y o n' e => ?_⟩) (s.mono g.g)
  · rw [upd_ne (ne_of_none e gq)]
    exact g1.vw.sm y o e
  · refine ⟨(g1.vw.pr y hy).1, ?_⟩
    by_cases z : y = q
    · subst z
      rw [upd_same]
      exact dO_solid
    · rw [upd_ne z]
      exact (g1.vw.pr y hy).2
  · refine ⟨F.st hJ (Same.refl _) fun y o hy e => ?_, putM ms n a, ?_, upd_same, fun m hm => ?_⟩
    · rw [upd_ne (by intro z; subst z; exact hq hy)]
      exact e
    · rw [putM_fst]
      exact congrArg (putN · n) em
    · rcases putM_mem hm with hm | hm
      · exact rm m hm
      · subst hm
        exact hs
  · rw [upd_ne (fun z => n' (.inr z))]
    exact e
/-- tuple(sorted(d)) -/
theorem wf_tupSort {k : Dv → α × List Nm → Prop} (hi : ss[i]? = some (some (.r q))) (hk : ∀ os : List Nm, os.Perm ns → k (.d (.tuple (os.map nameD))) (c, ns)) :
    WpF Γ (F.dcell Γ.K P w q) (c, ns) (tCB (rTupL Γ.K) (tCons (tCB (rSortE Γ.K P w) (tCons (tVar i) tNil)) tNil)) ss k x := fun Pr G H σ v s Q kq kx => by
  obtain ⟨z, ez, rz⟩ := s.get hi
  have rz' : z = .ref q := rz
  subst rz'
  obtain ⟨hJ, ms, em, hv, rm⟩ := v.lf
  refine ⟨_, ez, q, ms, rfl, hv, fun n hn => sqt_mono v.sm (rm n hn), fun os p hp hpn => ?_⟩
  have g1 : Go ((F.dcell Γ.K P w q).at (c, ns)) Pr G H G (upd H p (.lst (os.map fun n => V.ref n.2))) := v.own hpn
  refine ⟨p, os.map fun n => V.ref n.2, rfl, .inl ⟨SqL.of upd_same, fun l hl => ?_⟩⟩
  have g2 := g1.vw.new (o := .tup (os.map fun n => V.ref n.2)) hl
  have hd : ∀ {l : List (Nm × Addr)}, (∀ n ∈ l, n ∈ ms) → DqAll Γ.K G (l.map fun n => V.ref n.2) ((l.map (·.1)).map nameD) := by
    intro l
    induction l with
    | nil => exact fun _ => .nil
    | cons n l ih => exact fun h => .cons (name_dq (rm n (h n List.mem_cons_self))) (ih fun m hm => h m (List.mem_cons_of_mem _ hm))
  have em' : ms.map (·.1) = ns := em
  have ho : (os.map (·.1)).Perm ns := by
    rw [← em']
    exact hp.map _
  exact kq _ _ (c, ns) _ _ (hk (os.map (·.1)) ho) (.of (g1.trans g2)) (.tup (SqT.of upd_same) (dqAll_mono g2.g (hd fun n hn => hp.mem_iff.mp hn)))
end
end K84

/-! part K84D12 -/
set_option maxHeartbeats 1000000
/-! K84D12: the law's draws. -/
namespace K84
local macro_rules | `(tactic| fail "w") => `(tactic| (first | with_reducible refine wp_neg ?_ | with_reducible refine wp_pick ?_ | with_reducible refine wp_draw ?_ | with_reducible refine ws_seq ?_ | with_reducible refine ws_nx ?_ | with_reducible refine ws_set ?_ | with_reducible refine ws_ret ?_ | with_reducible refine ws_if ?_ | with_reducible refine ws_drop ?_ | with_reducible refine wt_or ?_ | with_reducible refine wt_and ?_ | with_reducible refine wt_not ?_ | with_reducible refine wt_B ?_ | with_reducible refine wt_test ?_ | with_reducible refine wp_chain ?_ | with_reducible refine wp_andV ?_ | with_reducible refine wp_orV ?_ | with_reducible refine wp_notV ?_ | with_reducible refine wp_if ?_ | with_reducible refine wp_int ?_ | with_reducible refine wp_var (by with_unfolding_all rfl) ?_ | with_reducible refine wp_str ?_ | with_reducible refine wp_bl ?_ | with_reducible refine wp_non ?_ | with_reducible refine wp_ref ?_ | with_reducible refine wp_op ?_ | with_reducible refine wp_tup' ?_ | with_reducible refine wp_lst' ?_ | with_reducible refine wa_cons ?_ | with_reducible refine wa_nil ?_ | with_reducible refine wp_sl ?_ | with_reducible refine wo_none ?_ | with_reducible refine wo_some ?_ | with_reducible refine wp_isi' (by simp) ?_ | with_reducible refine wp_allIn (by with_unfolding_all rfl) (by assumption) (by with_unfolding_all exact of_decide_eq_true rfl) (by with_unfolding_all rfl) ?_ | with_reducible refine wp_cb ?_ | with_reducible refine wp_m1 ?_ | with_reducible refine rs_T1 ?_ | with_reducible refine rs_T' (by with_unfolding_all rfl) (by with_unfolding_all rfl) ?_ | with_reducible refine wi_list ?_ | with_reducible refine wi_tup ?_ | with_reducible refine wi_str ?_ | with_reducible refine wi_rng1 ?_ | with_reducible refine wi_rng2 ?_ | with_reducible refine wi_zipT ?_ | with_reducible refine wi_zipM ?_ | with_reducible refine wi_enum ?_ | with_reducible refine rd_ib ?_ | with_reducible refine rd_ii ?_ | with_reducible refine rd_inSg ?_ | with_reducible refine rd_mod (by first | assumption | decide) ?_ | with_reducible refine rd_mul (cmul_r (by decide +kernel)) ?_ | with_reducible refine rd_mul (cmul_l (by decide +kernel)) ?_ | with_reducible refine rc_max ?_ | with_reducible refine rc_min ?_ | with_reducible refine rd_eqI ?_ | with_reducible refine rd_neI ?_ | with_reducible refine rd_eqS (by first | assumption | decide +kernel) (by first | assumption | decide +kernel) ?_ | with_reducible refine rd_neS (by first | assumption | decide +kernel) (by first | assumption | decide +kernel) ?_ | with_reducible refine rd_iC (cpow_ok (by with_unfolding_all rfl)) ?_ | with_reducible refine rd_isN' (b := true) (by with_unfolding_all rfl) ?_ | with_reducible refine rd_isN' (b := false) (by with_unfolding_all rfl) ?_ | with_reducible refine rd_notN' (b := true) (by with_unfolding_all rfl) ?_ | with_reducible refine rd_notN' (b := false) (by with_unfolding_all rfl) ?_ | with_reducible refine rc_len (by first | assumption | with_unfolding_all rfl) ?_ | with_reducible refine rd_ixT0 ?_ | with_reducible refine rd_ixL0 ?_ | with_reducible refine rd_ixT (by first | assumption | with_unfolding_all rfl) ?_ | with_reducible refine rd_ixL (by first | assumption | with_unfolding_all rfl) ?_ | with_reducible refine wp_callF ?_ | with_reducible refine rc_tupL ?_ | with_reducible refine rc_strS ?_ | with_reducible refine rc_all ?_ | with_reducible refine L2.iteT ?_ | with_reducible refine ite_dT (by with_unfolding_all exact of_decide_eq_true rfl) ?_ | with_reducible refine ite_dF (by with_unfolding_all exact of_decide_eq_false rfl) ?_ | with_reducible refine ite_ndT (by with_unfolding_all exact of_decide_eq_true rfl) ?_ | with_reducible refine ite_ndF (by with_unfolding_all exact of_decide_eq_false rfl) ?_ | with_reducible refine L2.iteF ?_ | with_reducible refine ite_nt ?_ | with_reducible refine ite_nf ?_ | refine ⟨_, true, rfl, rfl, ?_⟩ | refine ⟨_, false, rfl, rfl, ?_⟩ | with_reducible refine ⟨_, rfl, ?_⟩ | with_reducible refine ⟨_, _, rfl, ?_⟩ | with_reducible refine And.intro (by first | assumption | exact trivial | with_unfolding_all exact of_decide_eq_true rfl) ?_ | with_reducible refine And.intro Mode.Sub.no ?_ | with_reducible refine ⟨_, (by with_unfolding_all rfl), (by with_unfolding_all exact of_decide_eq_true rfl), ?_⟩))
open PySem PySem.Spec PyProof.Rows L2
section
variable {P : Program} {w : World} {K : PySem.W.Frag} {mg : Str → Option Value} {base : Heap}
abbrev N_law_cell_at : List Str := ["_law_script", "_law_k"]
abbrev P_law_cell_at : List Str := ["_law_script", "_law_k"]
theorem sc_law_cell_at : FnScope N_law_cell_at P_law_cell_at (defScope s_law_cell_at) := ⟨rfl, rfl, rfl, by decide +kernel, rfl, by decide +kernel, by decide +kernel⟩
abbrev sp_law_cell_at (K : PySem.W.Frag) : Sp := spD K (CN K) (fun p : Addr × List Int × Nat => Mode.scr K p.1 p.2.1) (fun p => [.r p.1, .d (.int (p.2.2 : Nat))]) (fun p => p.2.1.length ≤ 1000) (fun _ y => ∃ n, y = .int n) (fun _ => False)
theorem ok_law_cell_at (W : Wd w K mg) : FnI P w K mg base 1 (He.ga K "_law_cell_at") (sp_law_cell_at K) := by
  obtain ⟨fd, F⟩ := W.fd_law_cell_at
  refine FnI.of F sc_law_cell_at (fun _ _ _ _ _ _ us hl => match us, hl with | [_, _], _ => rfl) (fun _ _ => rfl) fun cdv A outer s H E hr ⟨a, xs, k⟩ hx => ⟨_, (pss_cons (ps_if (pt_cmpR op_lt (pv 1) (pe_callB (callK rLenD K call_lenD2) rfl W.f_len PyProof.Rows.Boot.«len» (pa_cons (pv 0) pa_nil)) (nomark _)) (pss_one (ps_ret (pe_ix (ixK rIxL K ix_list) (pv 0) (pv 1) (fun _ _ => rfl)))) pss_nil)
      (pss_one (ps_ret pe_int))), ?_⟩
  show WpS ⟨K, Mode.scr K a xs, E, CN K⟩ _ _ _
  try dsimp only [cxOf, Cx.blk, Cx.blkE]
  repeat fail "w"
  refine rc_lenS ?_
  repeat fail "w"
  refine b_if2 (fun h => ?_) (fun h => ?_)
  · have hk : k < xs.length := by omega
    repeat fail "w"
    refine rd_ixSc hk ?_
    repeat fail "w"
    exact ⟨_, rfl⟩
  · repeat fail "w"
    exact ⟨_, rfl⟩
abbrev N_law_left : List Str := ["_law_script", "_law_k", "_law_cell", "_law_seed"]
abbrev P_law_left : List Str := ["_law_script", "_law_k"]
theorem sc_law_left : FnScope N_law_left P_law_left (defScope s_law_left) := ⟨rfl, rfl, rfl, by decide +kernel, rfl, by decide +kernel, by decide +kernel⟩
theorem ok_law_left (W : Wd w K mg) : FnI P w K mg base 2 (He.ga K "_law_left") (spLeft K) := by
  obtain ⟨fd, D⟩ := W.fd_law_left
  refine ⟨fd, P_law_left, D.ok sc_law_left (fun vs H Q E ⟨a, xs, k, G, Pr, _, h, _⟩ => (Paired.length h).trans rfl) fun cdv A outer s H vs Q E hr hs => ⟨_, (pss_cons (ps_set (i := 2) sc_law_left.nd rfl (Or.inl rfl) (pe_callI (ok_law_cell_at W) hr W.g_law_cell_at passL (pa_cons (pv 0) (pa_cons (pe_op op_mod (pv 1) (pe_callB (call_max2b rfl) rfl W.f_max PyProof.Rows.Boot.«max» (pa_cons pe_int (pa_cons (pe_callB (callK rLenD K call_lenD2) rfl W.f_len PyProof.Rows.Boot.«len» (pa_cons (pv 0) pa_nil)) pa_nil)))) pa_nil))))
      (pss_cons (ps_set (i := 3) sc_law_left.nd rfl (Or.inl rfl) (pe_op op_mod (pe_op op_mul (pe_op op_add (pe_op op_add (pe_op op_mod (pv 2) pe_int) (pe_op op_mul (pe_op op_mul pe_int (pv 1)) (pv 1))) pe_int) pe_int) pe_int))
      (pss_cons (ps_if (pt_cmpR (opK rEqD K (op_eqD hr.units)) (pe_op op_mod (pe_callI (ok_law_cell_at W) hr W.g_law_cell_at passL (pa_cons (pv 0) (pa_cons pe_int pa_nil))) pe_int) pe_int (nomark _)) (pss_one (ps_set (i := 2) sc_law_left.nd rfl (Or.inl rfl) pe_int)) pss_nil)
      (pss_one (ps_ret (pe_lst (pa_cons (pe_op op_mod (pv 2) (pe_op op_pow pe_int pe_int)) (pa_cons (pv 3) pa_nil)))))))), ?_⟩, D.bindsN (fun _ _ _ _ _ _ us hl => match us, hl with | [_, _], _ => rfl), D.kp⟩
  obtain ⟨a, xs, k, G, Pr, ⟨hx, hk⟩, hv, v, hq⟩ := hs
  try dsimp only [cxOf, Cx.blk, Cx.blkE]
  suffices hw : WpN ⟨K, Mode.scr K a xs, E, CN K⟩ _ (startD N_law_left [.r a, .d (.int (k : Nat))]) inR from hw Pr G H _ v (sl_start hv) _ fun p c G' H' hc g hp => hq p c G' H' hc g hp
  have hm : 0 < (if (xs.length : Int) > 1 then (xs.length : Int) else 1) := by split <;> omega
  obtain ⟨k1, hk1⟩ : ∃ k1 : Nat, (k : Int) % (if (xs.length : Int) > 1 then (xs.length : Int) else 1) = (k1 : Nat) := ⟨((k : Int) % _).toNat, (Int.toNat_of_nonneg (Int.emod_nonneg _ (by omega))).symm⟩
  refine wn_seq ?_
  repeat fail "w"
  refine wp_call (.inr fun _ z => z) ?_
  repeat fail "w"
  refine rc_lenS ?_
  repeat fail "w"
  rw [hk1]
  refine ⟨(a, xs, k1), rfl, hx, .refl, fun y ⟨n, ey⟩ => ?_, fun z => z.elim⟩
  subst ey
  refine wn_seq ?_
  repeat fail "w"
  refine rd_mul (.inr ⟨by omega, by omega⟩) ?_
  repeat fail "w"
  refine wn_seq ?_
  repeat fail "w"
  refine wp_call (.inr fun _ z => z) ?_
  repeat fail "w"
  refine ⟨(a, xs, 0), rfl, hx, .refl, fun y ⟨n2, ey⟩ => ?_, fun z => z.elim⟩
  subst ey
  repeat fail "w"
  have key : ∀ c : Int, inR (c % 10 ^ (40 : Int).toNat, (n % 2147483629 + 7919 * (k : Int) * (k : Int) + 11) * 48271 % 2147483647) := fun c => by
    have e : (10 : Int) ^ (40 : Int).toNat = 10 ^ 40 := by decide +kernel
    rw [e]
    exact ⟨⟨Int.emod_nonneg _ (by decide), Int.emod_lt_of_pos _ (by decide)⟩, Int.emod_nonneg _ (by decide), Int.emod_lt_of_pos _ (by decide)⟩
  have h40 : (0 : Int) < 10 ^ (40 : Int).toNat := by decide +kernel
  refine b_if2 (fun h => ?_) (fun h => ?_)
  · repeat fail "w"
    refine wn_ret ?_
    repeat fail "w"
    exact key 0
  · repeat fail "w"
    refine wn_ret ?_
    repeat fail "w"
    exact key n
abbrev N_law_pick : List Str := ["_law_left_here", "_law_many", "_law_digit"]
abbrev P_law_pick : List Str := ["_law_left_here", "_law_many"]
theorem sc_law_pick : FnScope N_law_pick P_law_pick (defScope s_law_pick) := ⟨rfl, rfl, rfl, by decide +kernel, rfl, by decide +kernel, by decide +kernel⟩
abbrev sp_law_pick (K : PySem.W.Frag) : Sp := spD K (CN K) (fun p : Addr × Int => Mode.draws p.1) (fun p => [.r p.1, .d (.int p.2)]) (fun p => 0 < p.2 ∧ p.2 ≤ 10 ^ 30) (fun p y => ∃ n, y = .int n ∧ 0 ≤ n ∧ n < p.2) (fun _ => False)
theorem ok_law_pick (W : Wd w K mg) : FnI P w K mg base 1 (He.ga K "_law_pick") (sp_law_pick K) := by
  obtain ⟨fd, F⟩ := W.fd_law_pick
  refine FnI.of F sc_law_pick (fun _ _ _ _ _ _ us hl => match us, hl with | [_, _], _ => rfl) (fun _ _ => rfl) fun cdv A outer s H E hr ⟨l, m⟩ ⟨hm, hm2⟩ => ⟨_, (pss_cons (ps_if (pt_cmpR op_gt (pe_ix (ixK rIxL K ix_list) (pv 0) pe_int (fun _ _ => rfl)) pe_int (nomark _)) (pss_cons (ps_set (i := 2) sc_law_pick.nd rfl (Or.inl rfl) (pe_op op_mod (pe_ix (ixK rIxL K ix_list) (pv 0) pe_int (fun _ _ => rfl)) (pv 1)))
      (pss_cons (ps_asg (pe_op op_fdivW (pe_ix (ixK rIxL K ix_list) (pv 0) pe_int (fun _ _ => rfl)) (pv 1)) (pg_sub (pv 0) pe_int set_list))
      (pss_one (ps_ret (pv 2))))) pss_nil)
      (pss_cons (ps_asg (pe_op op_mod (pe_op op_add (pe_op op_mul (pe_ix (ixK rIxL K ix_list) (pv 0) pe_int (fun _ _ => rfl)) pe_int) pe_int) pe_int) (pg_sub (pv 0) pe_int set_list))
      (pss_one (ps_ret (pe_op op_mod (pe_op op_mod (pe_op op_mul (pe_ix (ixK rIxL K ix_list) (pv 0) pe_int (fun _ _ => rfl)) (pe_ix (ixK rIxL K ix_list) (pv 0) pe_int (fun _ _ => rfl))) pe_int) (pv 1)))))), ?_⟩
  have hm : 0 < m := hm
  try dsimp only [cxOf, Cx.blk, Cx.blkE]
  refine ws_draws (Γ := ⟨K, E, CN K⟩) fun p hp => ?_
  refine fs_seq (fs_if (ft_look 0 rfl ?_))
  repeat fail "w"
  have hdv : CDivW p.1 m := by
    refine ⟨hm, ?_⟩
    have h2 : m.natAbs ≤ 10 ^ 30 := by have : m ≤ 10 ^ 30 := hm2; omega
    refine Nat.lt_of_lt_of_le (Nat.log2_lt (by omega) |>.mpr (Nat.lt_of_le_of_lt h2 (by decide : 10 ^ 30 < 2 ^ 100))) (by decide)
  have hsq : ∀ a : Int, CMul (a % 2147483647) (a % 2147483647) := fun a => .inl ⟨by have := Int.emod_nonneg a (b := 2147483647) (by decide); omega, by have := Int.emod_lt_of_pos a (b := 2147483647) (by decide); omega⟩
  refine b_if2 (fun h => ?_) (fun h => ?_)
  · refine fs_seq (fs_set (wf_look 0 rfl ?_))
    repeat fail "w"
    refine fs_seq (fs_set0 rfl (wf_look 0 rfl ?_))
    repeat fail "w"
    refine rd_iC hdv ?_
    refine ⟨rfl, _, rfl, ?_⟩
    refine fs_ret (wf_vr rfl ?_)
    refine ⟨⟨⟨Int.ediv_nonneg hp.1.1 (by omega), Int.lt_of_le_of_lt (Int.ediv_le_self _ hp.1.1) hp.1.2⟩, hp.2⟩, _, rfl, _, rfl, Int.emod_nonneg _ (by omega), Int.emod_lt_of_pos _ hm⟩
  · refine fs_nx ?_
    refine fs_seq (fs_set1 rfl (wf_look 0 rfl ?_))
    repeat fail "w"
    refine fs_ret (wf_look 0 rfl ?_)
    repeat fail "w"
    refine rd_mul (hsq _) ?_
    repeat fail "w"
    exact ⟨⟨hp.1, Int.emod_nonneg _ (by decide), Int.emod_lt_of_pos _ (by decide)⟩, _, rfl, _, rfl, Int.emod_nonneg _ (by omega), Int.emod_lt_of_pos _ hm⟩
end
end K84

/-! part K84D13 -/
set_option maxHeartbeats 1000000
/-! K84D13: drawn numbers, words, names, deeds. -/
namespace K84 -- rules
open PySem PySem.Spec PyProof.Rows L2
section
variable {K : PySem.W.Frag} {E E' : XK} {l : Addr} {tr : TA} {ss : Sd} {k : Dv → Prop} {x : Prop}
theorem wp_pick (h : WpA ⟨K, Mode.draws l, E, CN K⟩ tr ss (fun ds => ∃ m, ds = [.r l, .d (.int m)] ∧ (0 < m ∧ m ≤ 10 ^ 30) ∧ ∀ n, 0 ≤ n → n < m → k (.d (.int n))) x) : Wp ⟨K, Mode.draws l, E, CN K⟩ (tCall (sp_law_pick K) [] E' tr) ss k x :=
  wp_call (.inr fun _ z => z) fun Pr G H σ v s Q hq hx => h Pr G H σ v s Q (fun ds vs G' H' ⟨m, e, hm, hk⟩ => hq ds vs G' H' ⟨(l, m), e, hm, .refl, fun d ⟨n, e, h0, h1⟩ => by subst e; exact hk n h0 h1, fun z => z.elim⟩) hx
theorem rd_ixN {Γ : Ctx} {xs : List PyData} {n : Int} (h0 : 0 ≤ n) (h1 : n < xs.length) (q : ∀ x ∈ xs, k (.d x)) : RD Γ (rIxL Γ.K) (.d (.list xs)) (.d (.int n)) k := by
  obtain ⟨i, rfl⟩ : ∃ i : Nat, n = (i : Int) := ⟨n.toNat, (Int.toNat_of_nonneg h0).symm⟩
  have hi : i < xs.length := by omega
  exact rd_ixL (atI_nat (List.getElem?_eq_getElem hi)) (q _ (List.getElem_mem hi))
end
/-- a promise of the draws -/
abbrev spW (K : PySem.W.Frag) (P : PyData → Prop) : Sp := spD K (CN K) (fun l : Addr => Mode.draws l) (fun l => [.r l]) (fun _ => True) (fun _ y => P y) (fun _ => False)
theorem wp_draw {K : PySem.W.Frag} {E E' : XK} {l : Addr} {tr : TA} {ss : Sd} {k : Dv → Prop} {x : Prop} {P : PyData → Prop} (h : WpA ⟨K, Mode.draws l, E, CN K⟩ tr ss (fun ds => ds = [.r l] ∧ ∀ d, P d → k (.d d)) x) : Wp ⟨K, Mode.draws l, E, CN K⟩ (tCall (spW K P) [] E' tr) ss k x :=
  wp_call (.inr fun _ z => z) fun Pr G H σ v s Q hq hx => h Pr G H σ v s Q (fun ds vs G' H' ⟨e, hk⟩ => hq ds vs G' H' ⟨l, e, trivial, .refl, hk, fun z => z.elim⟩) hx
end K84
namespace K84
local macro_rules | `(tactic| fail "w") => `(tactic| (first | with_reducible refine wp_neg ?_ | with_reducible refine wp_pick ?_ | with_reducible refine wp_draw ?_ | with_reducible refine ws_seq ?_ | with_reducible refine ws_nx ?_ | with_reducible refine ws_set ?_ | with_reducible refine ws_ret ?_ | with_reducible refine ws_if ?_ | with_reducible refine ws_drop ?_ | with_reducible refine wt_or ?_ | with_reducible refine wt_and ?_ | with_reducible refine wt_not ?_ | with_reducible refine wt_B ?_ | with_reducible refine wt_test ?_ | with_reducible refine wp_chain ?_ | with_reducible refine wp_andV ?_ | with_reducible refine wp_orV ?_ | with_reducible refine wp_notV ?_ | with_reducible refine wp_if ?_ | with_reducible refine wp_int ?_ | with_reducible refine wp_var (by with_unfolding_all rfl) ?_ | with_reducible refine wp_str ?_ | with_reducible refine wp_bl ?_ | with_reducible refine wp_non ?_ | with_reducible refine wp_ref ?_ | with_reducible refine wp_op ?_ | with_reducible refine wp_tup' ?_ | with_reducible refine wp_lst' ?_ | with_reducible refine wa_cons ?_ | with_reducible refine wa_nil ?_ | with_reducible refine wp_sl ?_ | with_reducible refine wo_none ?_ | with_reducible refine wo_some ?_ | with_reducible refine wp_isi' (by simp) ?_ | with_reducible refine wp_allIn (by with_unfolding_all rfl) (by assumption) (by with_unfolding_all exact of_decide_eq_true rfl) (by with_unfolding_all rfl) ?_ | with_reducible refine wp_cb ?_ | with_reducible refine wp_m1 ?_ | with_reducible refine rs_T1 ?_ | with_reducible refine rs_T' (by with_unfolding_all rfl) (by with_unfolding_all rfl) ?_ | with_reducible refine wi_list ?_ | with_reducible refine wi_tup ?_ | with_reducible refine wi_str ?_ | with_reducible refine wi_rng1 ?_ | with_reducible refine wi_rng2 ?_ | with_reducible refine wi_zipT ?_ | with_reducible refine wi_zipM ?_ | with_reducible refine wi_enum ?_ | with_reducible refine rd_ib ?_ | with_reducible refine rd_ii ?_ | with_reducible refine rd_inSg ?_ | with_reducible refine rd_mod (by first | assumption | decide) ?_ | with_reducible refine rd_mul (cmul_r (by decide +kernel)) ?_ | with_reducible refine rd_mul (cmul_l (by decide +kernel)) ?_ | with_reducible refine rc_max ?_ | with_reducible refine rc_min ?_ | with_reducible refine rd_eqI ?_ | with_reducible refine rd_neI ?_ | with_reducible refine rd_eqS (by first | assumption | decide +kernel) (by first | assumption | decide +kernel) ?_ | with_reducible refine rd_neS (by first | assumption | decide +kernel) (by first | assumption | decide +kernel) ?_ | with_reducible refine rd_iC (cpow_ok (by with_unfolding_all rfl)) ?_ | with_reducible refine rd_isN' (b := true) (by with_unfolding_all rfl) ?_ | with_reducible refine rd_isN' (b := false) (by with_unfolding_all rfl) ?_ | with_reducible refine rd_notN' (b := true) (by with_unfolding_all rfl) ?_ | with_reducible refine rd_notN' (b := false) (by with_unfolding_all rfl) ?_ | with_reducible refine rc_len (by first | assumption | with_unfolding_all rfl) ?_ | with_reducible refine rd_ixT0 ?_ | with_reducible refine rd_ixL0 ?_ | with_reducible refine rd_ixT (by first | assumption | with_unfolding_all rfl) ?_ | with_reducible refine rd_ixL (by first | assumption | with_unfolding_all rfl) ?_ | with_reducible refine wp_callF ?_ | with_reducible refine rc_tupL ?_ | with_reducible refine rc_strS ?_ | with_reducible refine rc_all ?_ | with_reducible refine L2.iteT ?_ | with_reducible refine ite_dT (by with_unfolding_all exact of_decide_eq_true rfl) ?_ | with_reducible refine ite_dF (by with_unfolding_all exact of_decide_eq_false rfl) ?_ | with_reducible refine ite_ndT (by with_unfolding_all exact of_decide_eq_true rfl) ?_ | with_reducible refine ite_ndF (by with_unfolding_all exact of_decide_eq_false rfl) ?_ | with_reducible refine L2.iteF ?_ | with_reducible refine ite_nt ?_ | with_reducible refine ite_nf ?_ | refine ⟨_, true, rfl, rfl, ?_⟩ | refine ⟨_, false, rfl, rfl, ?_⟩ | with_reducible refine ⟨_, rfl, ?_⟩ | with_reducible refine ⟨_, _, rfl, ?_⟩ | with_reducible refine And.intro (by first | assumption | exact trivial | with_unfolding_all exact of_decide_eq_true rfl) ?_ | with_reducible refine And.intro Mode.Sub.no ?_ | with_reducible refine ⟨_, (by with_unfolding_all rfl), (by with_unfolding_all exact of_decide_eq_true rfl), ?_⟩))
open PySem PySem.Spec PyProof.Rows L2
section
variable {P : Program} {w : World} {K : PySem.W.Frag} {mg : Str → Option Value} {base : Heap}
abbrev N_law_number : List Str := ["_law_left_here", "_law_most"]
abbrev P_law_number : List Str := ["_law_left_here"]
theorem sc_law_number : FnScope N_law_number P_law_number (defScope s_law_number) := ⟨rfl, rfl, rfl, by decide +kernel, rfl, by decide +kernel, by decide +kernel⟩
abbrev sp_law_number (K : PySem.W.Frag) : Sp := spW K (fun y => ∃ n, y = .int n ∧ 0 ≤ n ∧ n < 10 ^ 30)
theorem ok_law_number (W : Wd w K mg) : FnI P w K mg base 2 (He.ga K "_law_number") (sp_law_number K) := by
  obtain ⟨fd, F⟩ := W.fd_law_number
  refine FnI.of F sc_law_number (fun _ _ _ _ _ _ us hl => match us, hl with | [_], _ => rfl) (fun _ _ => rfl) fun cdv A outer s H E hr l _ => ⟨_, (pss_cons (ps_set (i := 1) sc_law_number.nd rfl (Or.inl rfl) (pe_ix (ixK rIxL K ix_list) (pe_lst (pa_cons pe_int (pa_cons pe_int (pa_cons (pe_op op_pow pe_int pe_int) (pa_cons (pe_op op_pow pe_int pe_int) pa_nil))))) (pe_callI (ok_law_pick W) hr W.g_law_pick passL (pa_cons (pv 0) (pa_cons pe_int pa_nil))) (fun _ _ => rfl)))
      (pss_one (ps_ret (pe_ix (ixK rIxL K ix_list) (pe_lst (pa_cons (pe_callI (ok_law_pick W) hr W.g_law_pick passL (pa_cons (pv 0) (pa_cons (pv 1) pa_nil))) (pa_cons (pe_op op_sub (pe_op op_sub (pv 1) pe_int) (pe_callI (ok_law_pick W) hr W.g_law_pick passL (pa_cons (pv 0) (pa_cons pe_int pa_nil)))) pa_nil))) (pe_callI (ok_law_pick W) hr W.g_law_pick passL (pa_cons (pv 0) (pa_cons pe_int pa_nil))) (fun _ _ => rfl))))), ?_⟩
  try dsimp only [cxOf, Cx.blk, Cx.blkE]
  repeat fail "w"
  intro n1 a1 b1
  refine rd_ixN a1 b1 (fun y hy => ?_)
  obtain ⟨m, rfl, hm1, hm2⟩ : ∃ m, y = PyData.int m ∧ 9 ≤ m ∧ m ≤ 10 ^ 30 := by
    simp only [List.mem_cons, List.not_mem_nil, or_false] at hy
    rcases hy with rfl | rfl | rfl | rfl
    · exact ⟨_, rfl, by decide +kernel, by decide +kernel⟩
    · exact ⟨_, rfl, by decide +kernel, by decide +kernel⟩
    · exact ⟨_, rfl, by decide +kernel, by decide +kernel⟩
    · exact ⟨_, rfl, by decide +kernel, by decide +kernel⟩
  have hm3 : 0 < m := by omega
  repeat fail "w"
  refine ⟨⟨hm3, hm2⟩, fun n2 a2 b2 => ?_⟩
  repeat fail "w"
  intro n3 a3 b3
  repeat fail "w"
  intro n4 a4 b4
  refine rd_ixN a4 b4 (fun y hy => ?_)
  simp only [List.mem_cons, List.not_mem_nil, or_false] at hy
  rcases hy with rfl | rfl
  · exact ⟨_, rfl, n2, rfl, a2, by omega⟩
  · exact ⟨_, rfl, _, rfl, by omega, by omega⟩
end
end K84

/-! part K84J3 -/
set_option maxHeartbeats 2000000
/-! K84J3: loops whose row is drawn. -/
namespace K84
open PySem PySem.Spec PyProof.Rows L2
section
variable {α β : Type} {Γ : Ctx0} {F : Fam α} {c : α} {ss : Sd} {x : Prop} {t u : TS} {e : EndF α}
theorem sub_dcell {P : Program} {w : World} {K : PySem.W.Frag} {q : Addr} {ns : List Nm} {M : Mode} (s : Mode.Sub M (F.at c)) (hq : ¬ F.own q) : Mode.Sub M ((F.dcell K P w q).at (c, ns)) :=
  ⟨fun b h => .inl (s.own b h), fun h => s.to h.1, fun ⟨hJ, ns, en, e, r⟩ sg k h2 => ⟨s.back hJ sg k h2, ns, en, k _ _ (fun z => hq (s.own _ z)) e, fun n hn => sqt_mono sg (r n hn)⟩⟩
theorem sub_cell {q : Addr} {N : Cn β} {b : β} {M : Mode} (s : Mode.Sub M (F.at c)) (hq : ¬ F.own q) : Mode.Sub M ((F.cell q N).at (c, b)) :=
  ⟨fun b h => .inl (s.own b h), fun h => s.to h.1, fun ⟨hJ, vs, e, r⟩ sg k h2 => ⟨s.back hJ sg k h2, vs, k _ _ (fun z => hq (s.own _ z)) e, N.mono sg r⟩⟩
theorem fs_midR (R : Sd → α → Prop) (h1 : WpFS Γ F c t ss ⟨R, fun _ _ => False, e.x⟩) (h2 : ∀ s1 c1, R s1 c1 → WpFS Γ F c1 u s1 e) : WpFS Γ F c (tSeq t u) ss e :=
  fs_seq fun Pr G H σ v s D kn kr kx => h1 Pr G H σ v s D (fun ss' σ' c' G' H' hR g s' => kn ss' σ' c' G' H' (h2 ss' c' hR) g s') (fun _ _ _ _ _ z => z.elim) kx
theorem ws_midR {Γ : Ctx} {e : EndD} (R : Sd → Prop) (h1 : WpS Γ t ss ⟨R, fun _ => False, e.x⟩) (h2 : ∀ s1, R s1 → WpS Γ u s1 e) : WpS Γ (tSeq t u) ss e :=
  ws_seq fun Pr G H σ v s D kn kr kx => h1 Pr G H σ v s D (fun ss' σ' G' H' hR g s' => kn ss' σ' G' H' (h2 ss' hR) g s') (fun _ _ _ _ z => z.elim) kx
theorem fs_forM {M : Mode} {wi : TI} {tg : TG} {vs : List Nat} (sM : Mode.Sub M (F.at c)) (h : WpI (Γ.at M) wi ss (fun its => ∃ I : Nat → Sd → α → Prop, I 0 ss c ∧ (∀ i d s1 c1, its[i]? = some d → I i s1 c1 → ∃ s2, Tgt tg Γ.K vs s1 d s2 ∧ WpFS Γ F c1 t s2 ⟨I (i + 1), e.rt, e.x⟩) ∧ ∀ s1 c1, I its.length s1 c1 → e.nx s1 c1) e.x) :
    WpFS Γ F c (tFor wi tg t) ss e := fun Pr G H σ v s D kn kr kx => by
  refine h Pr G H σ (v.sub sM) s _ (fun its J G1 H1 ⟨I, h0, hstep, hend⟩ g1' src => ?_) fun z dd fs H' kp => kx z dd fs H' fun b o n e => kp b o (fun y => n (sM.own b y)) e
  have g1 : GoF F Pr G H c G1 H1 := .of (g1'.sub sM v)
  refine ⟨fun i m σ' H' => m = its.length - i ∧ i ≤ its.length ∧ ∃ s1 c1 G', I i s1 c1 ∧ GoF F Pr G1 H1 c1 G' H' ∧ Sl Γ.K G' σ' s1, ⟨_, rfl, Nat.zero_le _, ss, c, G1, h0, GoF.refl g1.vw, s.mono g1.g⟩, ?_⟩
  rintro i m σ' H' ⟨rfl, hi, s1, c1, G', hI, g, s'⟩
  obtain ⟨sgo, sst, syl⟩ := src H' (g.g.trans g.vw.sm) i
  by_cases hlt : i < its.length
  · obtain ⟨d, hd⟩ : ∃ d, its[i]? = some d := ⟨_, List.getElem?_eq_getElem hlt⟩
    refine .inr ⟨sgo hlt, fun σ2 H2 => i + 1 ≤ its.length ∧ ∃ s1 c1 G', I (i + 1) s1 c1 ∧ GoF F Pr G1 H1 c1 G' H2 ∧ Sl Γ.K G' σ2 s1, fun σ2 H2 q => ⟨its.length - (i + 1), by omega, rfl, q⟩, fun w H2 hy => ?_⟩
    have step : ∃ G2, GoF F Pr G' H' c1 G2 H2 ∧ DvR Γ.K G2 w d := by
      rcases syl d w H2 hd hy with ⟨e, r⟩ | ⟨T, o, hT, e, r⟩
      · subst e
        exact ⟨G', GoF.refl g.vw, r.mono g.g⟩
      · subst e
        exact ⟨_, .of (g.vw.new hT), r G' g.g (g.vw.sm.free hT)⟩
    obtain ⟨G2, g2, rd⟩ := step
    obtain ⟨s2, htg, hb⟩ := hstep i d s1 c1 hd hI
    refine htg G2 H2 σ' w g2.vw.sm (s'.mono g2.g) rd _ fun σ3 s3 _ => ?_
    have g12 := g.trans g2
    exact hb Pr G2 H2 σ3 g2.vw s3 _ (fun s4 σ4 c4 G4 H4 q g4 q4 => ⟨hlt, s4, c4, G4, q, g12.trans g4, q4⟩) (fun d w c3 G3 H3 q g3 r => kr d w c3 G3 H3 q ((g1.trans g12).trans g3) r) (kx.on fun b o n q => g12.h b o n (g1.h b o n q))
  · have e : i = its.length := by omega
    subst e
    exact .inl ⟨sst (Nat.le_refl _), kn s1 σ' c1 G' H' (hend s1 c1 hI) (g1.trans g) s'⟩
end
end K84
namespace K84
open PySem PySem.Spec PyProof.Rows L2
section
variable {α β : Type} {Γ : Ctx0} {F : Fam α} {F' : Fam β} {c : α} {ss : Sd} {x : Prop} {tt : TT} {t u : TS} {e : EndF α}
theorem fs_ifB (P : Prop) (ht : WpFT Γ F c tt ss (fun b c1 => c1 = c ∧ (b = true → P)) e.x) (h1 : P → WpFS Γ F c t ss e) (h2 : WpFS Γ F c u ss e) : WpFS Γ F c (tIfS tt t u) ss e :=
  fs_if fun Pr G H σ v s Q hq hx => ht Pr G H σ v s Q (fun b c1 G' H' ⟨ec, hP⟩ g => hq b c1 G' H' (by
    subst ec
    cases b with
    | true =>
      rw [if_pos rfl]
      exact h1 (hP rfl)
    | false =>
      rw [if_neg (by decide)]
      exact h2) g) hx
theorem fs_sub0 {c' : β} {up : β → α} (s : FSub F' c' F c up) (h : WpFS Γ F' c' t ss ⟨fun s' b => e.nx s' (up b), fun d b => e.rt d (up b), e.x⟩) : WpFS Γ F c t ss e := fs_sub s h (fun _ _ z => z) (fun _ _ z => z) fun z => z
end
end K84

/-! part K84A -/
set_option maxHeartbeats 2000000
/-! K84A: a written dict of an own, asked by .get; tests over cells. -/
namespace K84
open PySem PySem.Spec PyProof.Rows L2
section
variable {α β : Type}
def Fam.kcell (F : Fam α) (q : Addr) (D : List (Key × V)) : Fam α := ⟨fun b => F.own b ∨ b = q, fun c G H => F.J c G H ∧ H q = some (.dK D),
  fun ⟨h, e⟩ s k => ⟨F.st h s fun b o hb => k b o (.inl hb), k _ _ (.inr rfl) e⟩⟩
variable {Γ : Ctx0} {F : Fam α} {q : Addr} {c : α} {D : List (Key × V)} {ss : Sd} {i : Nat} {x : Prop} {ty tx : TE} {u : TS} {tt tu : TT}
theorem FSub.kcell (hq : ¬ F.own q) : FSub F c (F.kcell q D) c (fun d => d) := ⟨fun _ h => .inl h, fun h => h.1, fun ⟨_, e⟩ s k h => ⟨h, k _ _ hq e⟩⟩
theorem tPairs_const {σ : L2.St} {H : Hp} : ∀ {kvs : List (Key × V)} {Q : List (V × V) → Hp → Prop}, Q (kvs.map fun kv => (kV kv.1, kv.2)) H → tPairs (kvs.map fun kv => (tC (kV kv.1), tC kv.2)) σ H Q
  | [], _, h => h
  | p :: r, Q, h => by
    show tPairs (r.map fun kv => (tC (kV kv.1), tC kv.2)) σ H fun ps H3 => Q ((kV p.1, p.2) :: ps) H3
    exact tPairs_const (Q := fun ps H3 => Q ((kV p.1, p.2) :: ps) H3) h
/-- name = {written}; the rest knows it as its own -/
theorem fs_newK {e : EndF α} {trs : List (TE × TE)} (kvs : List (Key × V)) (ht : trs = kvs.map fun kv => (tC (kV kv.1), tC kv.2)) (hl : kvs.length ≤ 15) (h : ∀ q, ¬ F.own q → WpFS Γ (F.kcell q (mergeK [] kvs)) c u (ss.set i (some (.r q))) e) :
    WpFS Γ F c (tSeq (tAsg (tDisp trs) (gName i)) u) ss e := fun Pr G H σ v s D kn kr kx => by
  subst ht
  intro p hp
  refine tPairs_const ⟨upd_same, kvs, rfl, hl, ?_⟩
  rw [upd_upd]
  have gp : G p = none := v.sm.free hp
  have np : ¬ Pr p := fun z => (v.pr p z).2.ne hp
  have no : ¬ F.own p := fun z => np (v.ow p z)
  have hs : Solid (upd H p (.dK (mergeK [] kvs)) p) := by
    rw [upd_same]
    exact ⟨_, rfl, fun _ y => nomatch y⟩
  have g1 : Go (F.at c) Pr G H G (upd H p (.dK (mergeK [] kvs))) := v.own hp
  have w0 := g1.vw.more gp hs
  have w1 : Vw ((F.kcell p (mergeK [] kvs)).at c) (fun y => Pr y ∨ y = p) G (upd H p (.dK (mergeK [] kvs))) := w0.as (fun y hy => hy.elim (fun z => .inl (v.ow y z)) .inr) ⟨g1.vw.lf, upd_same⟩
  have keep : ∀ y o, H y = some o → y ≠ p := fun y o e z => by
    rw [z, hp] at e
    cases e
  have back : ∀ c2 G2 H2, GoF (F.kcell p (mergeK [] kvs)) (fun y => Pr y ∨ y = p) G (upd H p (.dK (mergeK [] kvs))) c2 G2 H2 → GoF F Pr G H c2 G2 H2 := fun c2 G2 H2 g2 =>
    ⟨⟨g2.vw.sm, fun y hy => g2.vw.pr y (.inl hy), fun y hy => v.ow y hy, g2.vw.lf.1⟩, g2.g, fun y o n e => g2.h y o (fun w => w.elim n (keep y o e)) (by rw [upd_ne (keep y o e)]; exact e)⟩
  exact h p no _ G _ _ w1 (Sl.set (d := .r p) rfl i s) D (fun ss' σ' c2 G2 H2 hn g2 s2 => kn ss' σ' c2 G2 H2 hn (back c2 G2 H2 g2) s2) (fun d w' c2 G2 H2 hd g2 rd => kr d w' c2 G2 H2 hd (back c2 G2 H2 g2) rd)
    fun z dd fs H' kp => kx z dd fs H' fun y o n e => kp y o (fun w => w.elim n (keep y o e)) (by rw [upd_ne (keep y o e)]; exact e)
/-- d.get(a text, a number) -/
theorem wf_kgetD {k : Dv → α → Prop} (hi : ss[i]? = some (some (.r q))) (h : Wp (Γ.at Mode.no) ty ss (fun d => ∃ z : Str, d = .d (.str z) ∧ Wp (Γ.at Mode.no) tx ss (fun d2 => ∃ n m : Int, d2 = .d (.int n) ∧ (valV D (.inr z)).getD (.int n) = .int m ∧ k (.d (.int m)) c) x) x) :
    WpF Γ (F.kcell q D) c (tDGet2 (tVar i) ty tx) ss k x := fun Pr G H σ v s Q kq kx => by
  obtain ⟨z, ez, rz⟩ := s.get hi
  have rz' : z = .ref q := rz
  subst rz'
  have hk := v.lf.2
  have kx' : ∀ {H1 : Hp}, (∀ b o, ¬ Mode.no.own b → H b = some o → H1 b = some o) → Wants (Γ.at Mode.no) x H1 := fun k1 z dd fs H' kp => kx z dd fs H' fun b o n e => kp b o (fun y => y) (k1 b o (fun y => y) e)
  refine ⟨_, ez, q, rfl, .inl ⟨D, .inl hk⟩, ?_⟩
  refine h Pr G H σ (v.sub .no) s _ (fun d w G1 H1 ⟨z, ed, h2⟩ g1 r1 => ?_) (kx' fun _ _ _ e => e)
  subst ed
  cases r1
  refine h2 Pr G1 H1 σ g1.vw (s.mono g1.g) _ (fun d2 w2 G2 H2 ⟨n, m, ed, em, hq⟩ g2 r2 => ?_) (kx' g1.h)
  subst ed
  cases r2
  have g12 := g1.trans g2
  refine ⟨valV D (.inr z), DGet.k (k := .inr z) (g12.h.to_same q _ hk), ?_⟩
  rw [em]
  exact kq _ _ c G2 H2 hq (.of (g12.sub .no v)) (.int m)
theorem ft_or {k : Bool → α → Prop} (h : WpFT Γ F c tt ss (fun b c1 => if b = true then k true c1 else WpFT Γ F c1 tu ss k x) x) : WpFT Γ F c (tOr tt tu) ss k x := fun Pr G H σ v s Q hq hx =>
  h Pr G H σ v s _ (fun b c1 G1 H1 hb g => by
    cases b with
    | true => exact hq true c1 G1 H1 hb g
    | false => exact hb Pr G1 H1 σ g.vw (s.mono g.g) Q (fun b' c2 G2 H2 h2 g2 => hq b' c2 G2 H2 h2 (g.trans g2)) (hx.on g.h)) hx
theorem ft_and {k : Bool → α → Prop} (h : WpFT Γ F c tt ss (fun b c1 => if b = true then WpFT Γ F c1 tu ss k x else k false c1) x) : WpFT Γ F c (tAnd tt tu) ss k x := fun Pr G H σ v s Q hq hx =>
  h Pr G H σ v s _ (fun b c1 G1 H1 hb g => by
    cases b with
    | true => exact hb Pr G1 H1 σ g.vw (s.mono g.g) Q (fun b' c2 G2 H2 h2 g2 => hq b' c2 G2 H2 h2 (g.trans g2)) (hx.on g.h)
    | false => exact hq false c1 G1 H1 hb g) hx
/-- an if whose test touches no cell -/
theorem fs_ifL {t u : TS} {e : EndF α} (P N : Prop) (ht : WpT (Γ.at Mode.no) tt ss (Br P N) e.x) (h1 : P → WpFS Γ F c t ss e) (h2 : N → WpFS Γ F c u ss e) : WpFS Γ F c (tIfS tt t u) ss e :=
  fs_if (ft_lift0 fun Pr G H σ v s Q hq hx => ht Pr G H σ v s Q (fun b G' H' hb g => hq b G' H' (by
    cases b with
    | true =>
      rw [if_pos rfl]
      exact h1 (hb.t rfl)
    | false =>
      rw [if_neg (by decide)]
      exact h2 (hb.f rfl)) g) hx)
/-- an if whose test leaves the cells as they are -/
theorem fs_ifC {t u : TS} {e : EndF α} (P N : Prop) (ht : WpFT Γ F c tt ss (fun b c1 => c1 = c ∧ Br P N b) e.x) (h1 : P → WpFS Γ F c t ss e) (h2 : N → WpFS Γ F c u ss e) : WpFS Γ F c (tIfS tt t u) ss e :=
  fs_if fun Pr G H σ v s Q hq hx => ht Pr G H σ v s Q (fun b c1 G' H' ⟨ec, hb⟩ g => hq b c1 G' H' (by
    subst ec
    cases b with
    | true =>
      rw [if_pos rfl]
      exact h1 (hb.t rfl)
    | false =>
      rw [if_neg (by decide)]
      exact h2 (hb.f rfl)) g) hx
end
end K84

/-! part K84D22 -/
set_option maxHeartbeats 1000000
/-! K84D22: the deed that words write, as the law has it. -/
namespace K84
local macro_rules | `(tactic| fail "i") => `(tactic| (first | with_reducible refine wp_neg ?_ | with_reducible refine wp_pick ?_ | with_reducible refine wp_draw ?_ | with_reducible refine ws_seq ?_ | with_reducible refine ws_nx ?_ | with_reducible refine ws_set ?_ | with_reducible refine ws_ret ?_ | with_reducible refine ws_drop ?_ | with_reducible refine wt_or ?_ | with_reducible refine wt_and ?_ | with_reducible refine wt_not ?_ | with_reducible refine wt_B ?_ | with_reducible refine wt_test ?_ | with_reducible refine wp_chain ?_ | with_reducible refine wp_andV ?_ | with_reducible refine wp_orV ?_ | with_reducible refine wp_notV ?_ | with_reducible refine wp_if ?_ | with_reducible refine wp_int ?_ | with_reducible refine wp_var (by with_unfolding_all rfl) ?_ | with_reducible refine wp_str ?_ | with_reducible refine wp_bl ?_ | with_reducible refine wp_non ?_ | with_reducible refine wp_ref ?_ | with_reducible refine wp_op ?_ | with_reducible refine wp_tup' ?_ | with_reducible refine wp_lst' ?_ | with_reducible refine wa_cons ?_ | with_reducible refine wa_nil ?_ | with_reducible refine wp_sl ?_ | with_reducible refine wo_none ?_ | with_reducible refine wo_some ?_ | with_reducible refine wp_isi' (by simp) ?_ | with_reducible refine wp_allIn (by with_unfolding_all rfl) (by assumption) (by with_unfolding_all exact of_decide_eq_true rfl) (by with_unfolding_all rfl) ?_ | with_reducible refine wp_cb ?_ | with_reducible refine wp_m1 ?_ | with_reducible refine rs_T1 ?_ | with_reducible refine rs_T' (by with_unfolding_all rfl) (by with_unfolding_all rfl) ?_ | with_reducible refine wi_list ?_ | with_reducible refine wi_tup ?_ | with_reducible refine wi_str ?_ | with_reducible refine wi_rng1 ?_ | with_reducible refine wi_rng2 ?_ | with_reducible refine wi_zipT ?_ | with_reducible refine wi_zipM ?_ | with_reducible refine wi_enum ?_ | with_reducible refine rd_ib ?_ | with_reducible refine rd_ii ?_ | with_reducible refine rd_inSg ?_ | with_reducible refine rd_mod (by first | assumption | decide) ?_ | with_reducible refine rd_mul (cmul_r (by decide +kernel)) ?_ | with_reducible refine rd_mul (cmul_l (by decide +kernel)) ?_ | with_reducible refine rc_max ?_ | with_reducible refine rc_min ?_ | with_reducible refine rd_eqI ?_ | with_reducible refine rd_neI ?_ | with_reducible refine rd_eqS (by first | assumption | decide +kernel) (by first | assumption | decide +kernel) ?_ | with_reducible refine rd_neS (by first | assumption | decide +kernel) (by first | assumption | decide +kernel) ?_ | with_reducible refine rd_iC (cpow_ok (by with_unfolding_all rfl)) ?_ | with_reducible refine rd_isN' (b := true) (by with_unfolding_all rfl) ?_ | with_reducible refine rd_isN' (b := false) (by with_unfolding_all rfl) ?_ | with_reducible refine rd_notN' (b := true) (by with_unfolding_all rfl) ?_ | with_reducible refine rd_notN' (b := false) (by with_unfolding_all rfl) ?_ | with_reducible refine rc_len (by first | assumption | with_unfolding_all rfl) ?_ | with_reducible refine rd_ixT0 ?_ | with_reducible refine rd_ixL0 ?_ | with_reducible refine rd_ixT (by first | assumption | with_unfolding_all rfl) ?_ | with_reducible refine rd_ixL (by first | assumption | with_unfolding_all rfl) ?_ | with_reducible refine wp_callF ?_ | with_reducible refine rc_tupL ?_ | with_reducible refine rc_strS ?_ | with_reducible refine rc_all ?_ | with_reducible refine L2.iteT ?_ | with_reducible refine ite_dT (by with_unfolding_all exact of_decide_eq_true rfl) ?_ | with_reducible refine ite_dF (by with_unfolding_all exact of_decide_eq_false rfl) ?_ | with_reducible refine ite_ndT (by with_unfolding_all exact of_decide_eq_true rfl) ?_ | with_reducible refine ite_ndF (by with_unfolding_all exact of_decide_eq_false rfl) ?_ | with_reducible refine L2.iteF ?_ | with_reducible refine ite_nt ?_ | with_reducible refine ite_nf ?_ | refine ⟨_, true, rfl, rfl, ?_⟩ | refine ⟨_, false, rfl, rfl, ?_⟩ | with_reducible refine ⟨_, rfl, ?_⟩ | with_reducible refine ⟨_, _, rfl, ?_⟩ | with_reducible refine And.intro (by first | assumption | exact trivial | with_unfolding_all exact of_decide_eq_true rfl) ?_ | with_reducible refine And.intro Mode.Sub.no ?_ | with_reducible refine ⟨_, (by with_unfolding_all rfl), (by with_unfolding_all exact of_decide_eq_true rfl), ?_⟩))
local macro_rules | `(tactic| fail "w") => `(tactic| (first | with_reducible refine wp_neg ?_ | with_reducible refine wp_pick ?_ | with_reducible refine wp_draw ?_ | with_reducible refine ws_seq ?_ | with_reducible refine ws_nx ?_ | with_reducible refine ws_set ?_ | with_reducible refine ws_ret ?_ | with_reducible refine ws_if ?_ | with_reducible refine ws_drop ?_ | with_reducible refine wt_or ?_ | with_reducible refine wt_and ?_ | with_reducible refine wt_not ?_ | with_reducible refine wt_B ?_ | with_reducible refine wt_test ?_ | with_reducible refine wp_chain ?_ | with_reducible refine wp_andV ?_ | with_reducible refine wp_orV ?_ | with_reducible refine wp_notV ?_ | with_reducible refine wp_if ?_ | with_reducible refine wp_int ?_ | with_reducible refine wp_var (by with_unfolding_all rfl) ?_ | with_reducible refine wp_str ?_ | with_reducible refine wp_bl ?_ | with_reducible refine wp_non ?_ | with_reducible refine wp_ref ?_ | with_reducible refine wp_op ?_ | with_reducible refine wp_tup' ?_ | with_reducible refine wp_lst' ?_ | with_reducible refine wa_cons ?_ | with_reducible refine wa_nil ?_ | with_reducible refine wp_sl ?_ | with_reducible refine wo_none ?_ | with_reducible refine wo_some ?_ | with_reducible refine wp_isi' (by simp) ?_ | with_reducible refine wp_allIn (by with_unfolding_all rfl) (by assumption) (by with_unfolding_all exact of_decide_eq_true rfl) (by with_unfolding_all rfl) ?_ | with_reducible refine wp_cb ?_ | with_reducible refine wp_m1 ?_ | with_reducible refine rs_T1 ?_ | with_reducible refine rs_T' (by with_unfolding_all rfl) (by with_unfolding_all rfl) ?_ | with_reducible refine wi_list ?_ | with_reducible refine wi_tup ?_ | with_reducible refine wi_str ?_ | with_reducible refine wi_rng1 ?_ | with_reducible refine wi_rng2 ?_ | with_reducible refine wi_zipT ?_ | with_reducible refine wi_zipM ?_ | with_reducible refine wi_enum ?_ | with_reducible refine rd_ib ?_ | with_reducible refine rd_ii ?_ | with_reducible refine rd_inSg ?_ | with_reducible refine rd_mod (by first | assumption | decide) ?_ | with_reducible refine rd_mul (cmul_r (by decide +kernel)) ?_ | with_reducible refine rd_mul (cmul_l (by decide +kernel)) ?_ | with_reducible refine rc_max ?_ | with_reducible refine rc_min ?_ | with_reducible refine rd_eqI ?_ | with_reducible refine rd_neI ?_ | with_reducible refine rd_eqS (by first | assumption | decide +kernel) (by first | assumption | decide +kernel) ?_ | with_reducible refine rd_neS (by first | assumption | decide +kernel) (by first | assumption | decide +kernel) ?_ | with_reducible refine rd_iC (cpow_ok (by with_unfolding_all rfl)) ?_ | with_reducible refine rd_isN' (b := true) (by with_unfolding_all rfl) ?_ | with_reducible refine rd_isN' (b := false) (by with_unfolding_all rfl) ?_ | with_reducible refine rd_notN' (b := true) (by with_unfolding_all rfl) ?_ | with_reducible refine rd_notN' (b := false) (by with_unfolding_all rfl) ?_ | with_reducible refine rc_len (by first | assumption | with_unfolding_all rfl) ?_ | with_reducible refine rd_ixT0 ?_ | with_reducible refine rd_ixL0 ?_ | with_reducible refine rd_ixT (by first | assumption | with_unfolding_all rfl) ?_ | with_reducible refine rd_ixL (by first | assumption | with_unfolding_all rfl) ?_ | with_reducible refine wp_callF ?_ | with_reducible refine rc_tupL ?_ | with_reducible refine rc_strS ?_ | with_reducible refine rc_all ?_ | with_reducible refine L2.iteT ?_ | with_reducible refine ite_dT (by with_unfolding_all exact of_decide_eq_true rfl) ?_ | with_reducible refine ite_dF (by with_unfolding_all exact of_decide_eq_false rfl) ?_ | with_reducible refine ite_ndT (by with_unfolding_all exact of_decide_eq_true rfl) ?_ | with_reducible refine ite_ndF (by with_unfolding_all exact of_decide_eq_false rfl) ?_ | with_reducible refine L2.iteF ?_ | with_reducible refine ite_nt ?_ | with_reducible refine ite_nf ?_ | refine ⟨_, true, rfl, rfl, ?_⟩ | refine ⟨_, false, rfl, rfl, ?_⟩ | with_reducible refine ⟨_, rfl, ?_⟩ | with_reducible refine ⟨_, _, rfl, ?_⟩ | with_reducible refine And.intro (by first | assumption | exact trivial | with_unfolding_all exact of_decide_eq_true rfl) ?_ | with_reducible refine And.intro Mode.Sub.no ?_ | with_reducible refine ⟨_, (by with_unfolding_all rfl), (by with_unfolding_all exact of_decide_eq_true rfl), ?_⟩))
open PySem PySem.Spec PyProof.Rows L2
def optD : Option Deed → PyData
  | none => .none
  | some d => .tuple d.L
def doneM : List Str → Option Deed
  | [w] => if w = "join" ∨ w = "note" then some (.oth (some w) []) else none
  | [w, x] => if w = "say" ∧ wordB x = true then some (.say [x]) else (wholeB x 0 11).bind fun c => if w ∈ (["free", "ready", "quit"] : List Str) then some (.oth (some w) [c]) else none
  | [w, x, y] => (wholeB x 0 11).bind fun c => if w = "do" then (wholeB y 0 8).map fun p => .oth (some w) [c, p] else none
  | [w, x, y, z] => (wholeB x 0 11).bind fun c => if (w = "hand" ∧ y = "to") ∧ (wordB z = true ∧ z ≠ "bell") then some (.hand c z) else none
  | _ => none
theorem whole_int {z : Str} {lo hi c : Int} (hz : Sm z) (h : wholeB z lo hi = some c) : intText? z = some c := by
  unfold wholeB at h
  split at h
  · rename_i q
    obtain ⟨h1, h2, _⟩ := numOk_parts q.1
    rw [← Option.some.inj h]
    exact numVal_eq h1 h2 hz.len
  · cases h
theorem rd_inJN {Γ : Ctx} {k : Dv → Prop} {ds : List PyData} {b : Bool} (zs : List Str) (hd : ds = zs.map PyData.str) (h : ∀ z ∈ zs, okS z = true) (hb : (decide (zs = (["join"] : List Str)) || decide (zs = (["note"] : List Str))) = b) (q : k (.d (.bool b))) :
    RD Γ (rInT Γ.K) (.d (.list ds)) (.d (.tuple [.list [.str "join"], .list [.str "note"]])) k := by
  subst hd
  subst hb
  refine rd_inT (shaped_strsL h) (by decide +kernel) ?_
  have e : ∀ y : Str, PyData.eqv (.list [.str y]) (.list (zs.map PyData.str)) = decide (zs = [y]) := fun y => by
    show PyData.eqvAll (([y] : List Str).map PyData.str) (zs.map PyData.str) = _
    rw [eqv_strs]
    by_cases h : zs = [y]
    · rw [decide_eq_true h, decide_eq_true h.symm]
    · rw [decide_eq_false h, decide_eq_false fun z => h z.symm]
  show k (.d (.bool (PyData.eqv (.list [.str "join"]) (.list (zs.map PyData.str)) || (PyData.eqv (.list [.str "note"]) (.list (zs.map PyData.str)) || false))))
  rw [e, e, Bool.or_false]
  exact q
section
variable {P : Program} {w : World} {K : PySem.W.Frag} {mg : Str → Option Value} {base : Heap}
abbrev N_law_done : List Str := ["_law_words", "_law_c"]
abbrev P_law_done : List Str := ["_law_words"]
theorem sc_law_done : FnScope N_law_done P_law_done (defScope s_law_done) := ⟨rfl, rfl, rfl, by decide +kernel, rfl, by decide +kernel, by decide +kernel⟩
abbrev sp_law_done (K : PySem.W.Frag) : Sp := spD K (CN K) (fun _ => Mode.no) (fun zs : List Str => [.d (.list (zs.map PyData.str))]) (fun zs => (∀ z ∈ zs, Sm z) ∧ zs.length ≤ 500) (fun zs y => y = optD (doneM zs)) (fun _ => False)
theorem ok_law_done (W : Wd w K mg) : FnI P w K mg base 2 (He.ga K "_law_done") (sp_law_done K) := by
  obtain ⟨fd, F⟩ := W.fd_law_done
  refine FnI.of F sc_law_done (fun _ _ _ _ _ _ us hl => match us, hl with | [_], _ => rfl) (fun _ _ => rfl) fun cdv A outer s H E hr zs ⟨hp, hlen⟩ => ⟨_, (pss_cons (ps_if (pt_cmpR (opK rInT K (op_inT (u65 hr))) (pv 0) (pe_tup (pa_cons (pe_lst (pa_cons pe_str pa_nil)) (pa_cons (pe_lst (pa_cons pe_str pa_nil)) pa_nil))) (by rfl)) (pss_one (ps_ret (pe_tup (pa_cons (pe_ix (ixK rIxL K ix_list) (pv 0) pe_int (fun _ _ => rfl)) pa_nil)))) pss_nil)
      (pss_cons (ps_if (PW.pt (pw_and (pt_cmpR (opK rEqD K (op_eqD hr.units)) (pe_callB (callK rLenD K call_lenD2) rfl W.f_len PyProof.Rows.Boot.«len» (pa_cons (pv 0) pa_nil)) pe_int (nomark _)) (pw_and (pt_cmpR (opK rEqD K (op_eqD hr.units)) (pe_ix (ixK rIxL K ix_list) (pv 0) pe_int (fun _ _ => rfl)) pe_str (nomark _)) (pw_and1 (pt_val (pe_callI (ok_law_called W) hr W.g_law_called passL (pa_cons (pe_ix (ixK rIxL K ix_list) (pv 0) pe_int (fun _ _ => rfl)) pa_nil))))))) (pss_one (ps_ret (pe_tup (pa_cons pe_str (pa_cons (pe_ix (ixK rIxL K ix_list) (pv 0) pe_int (fun _ _ => rfl)) pa_nil))))) pss_nil)
      (pss_cons (ps_if (PW.pt (pw_or (pt_cmpR op_lt (pe_callB (callK rLenD K call_lenD2) rfl W.f_len PyProof.Rows.Boot.«len» (pa_cons (pv 0) pa_nil)) pe_int (nomark _)) (pw_or1 (pt_cmpR op_isNn (pe_callI (ok_law_whole W) hr W.g_law_whole passL (pa_cons (pe_ix (ixK rIxL K ix_list) (pv 0) pe_int (fun _ _ => rfl)) (pa_cons pe_int (pa_cons pe_int pa_nil)))) pe_non (nomark _))))) (pss_one (ps_ret pe_non)) pss_nil)
      (pss_cons (ps_set (i := 1) sc_law_done.nd rfl (Or.inl rfl) (pe_callTy call_intS rfl W.f_int PyProof.Rows.Boot.«int» (pa_cons (pe_ix (ixK rIxL K ix_list) (pv 0) pe_int (fun _ _ => rfl)) pa_nil)))
      (pss_cons (ps_if (PW.pt (pw_and (pt_cmpR (opK rEqD K (op_eqD hr.units)) (pe_callB (callK rLenD K call_lenD2) rfl W.f_len PyProof.Rows.Boot.«len» (pa_cons (pv 0) pa_nil)) pe_int (nomark _)) (pw_and1 (pt_cmpR (opK rInT K (op_inT (u65 hr))) (pe_ix (ixK rIxL K ix_list) (pv 0) pe_int (fun _ _ => rfl)) (pe_tup (pa_cons pe_str (pa_cons pe_str (pa_cons pe_str pa_nil)))) (by rfl))))) (pss_one (ps_ret (pe_tup (pa_cons (pe_ix (ixK rIxL K ix_list) (pv 0) pe_int (fun _ _ => rfl)) (pa_cons (pv 1) pa_nil))))) pss_nil)
      (pss_cons (ps_if (PW.pt (pw_and (pt_cmpR (opK rEqD K (op_eqD hr.units)) (pe_callB (callK rLenD K call_lenD2) rfl W.f_len PyProof.Rows.Boot.«len» (pa_cons (pv 0) pa_nil)) pe_int (nomark _)) (pw_and (pt_cmpR (opK rEqD K (op_eqD hr.units)) (pe_ix (ixK rIxL K ix_list) (pv 0) pe_int (fun _ _ => rfl)) pe_str (nomark _)) (pw_and1 (pt_cmpR op_notNn (pe_callI (ok_law_whole W) hr W.g_law_whole passL (pa_cons (pe_ix (ixK rIxL K ix_list) (pv 0) pe_int (fun _ _ => rfl)) (pa_cons pe_int (pa_cons pe_int pa_nil)))) pe_non (nomark _)))))) (pss_one (ps_ret (pe_tup (pa_cons pe_str (pa_cons (pv 1) (pa_cons (pe_callTy call_intS rfl W.f_int PyProof.Rows.Boot.«int» (pa_cons (pe_ix (ixK rIxL K ix_list) (pv 0) pe_int (fun _ _ => rfl)) pa_nil)) pa_nil)))))) pss_nil)
      (pss_cons (ps_if (PW.pt (pw_and (pt_cmpR (opK rEqD K (op_eqD hr.units)) (pe_callB (callK rLenD K call_lenD2) rfl W.f_len PyProof.Rows.Boot.«len» (pa_cons (pv 0) pa_nil)) pe_int (nomark _)) (pw_and (pt_cmpR (opK rEqD K (op_eqD hr.units)) (pe_evenL K (pv 0)) (pe_lst (pa_cons pe_str (pa_cons pe_str pa_nil))) (nomark _)) (pw_and (pt_val (pe_callI (ok_law_called W) hr W.g_law_called passL (pa_cons (pe_ix (ixK rIxL K ix_list) (pv 0) pe_int (fun _ _ => rfl)) pa_nil))) (pw_and1 (pt_cmpR (opK rNeD K (op_neD hr.units)) (pe_ix (ixK rIxL K ix_list) (pv 0) pe_int (fun _ _ => rfl)) pe_str (nomark _))))))) (pss_one (ps_ret (pe_tup (pa_cons pe_str (pa_cons (pv 1) (pa_cons (pe_ix (ixK rIxL K ix_list) (pv 0) pe_int (fun _ _ => rfl)) pa_nil)))))) pss_nil)
      (pss_one (ps_ret pe_non))))))))), ?_⟩
  match zs, hp, hlen with
  | [], hp, hlen =>
    try dsimp only [cxOf, Cx.blk, Cx.blkE]
    repeat fail "w"
    refine rd_inJN [] rfl (fun z h => nomatch h) (b := false) (by simp) ?_
    repeat fail "w"
    rfl
  | [a], hp, hlen =>
    have ha : Sm a := hp a (by simp)
    have e0 : doneM [a] = if a = "join" ∨ a = "note" then some (.oth (some a) []) else none := rfl
    try dsimp only [cxOf, Cx.blk, Cx.blkE]
    repeat fail "i"
    refine ws_ifB (a = "join" ∨ a = "note") (¬ (a = "join" ∨ a = "note")) ?_ (fun h1 => ?_) (fun h1 => ?_)
    · repeat fail "i"
      refine rd_inJN [a] rfl (fun z h => (hp z h).ok) rfl ?_
      repeat fail "i"
      exact ⟨fun z => by simpa using z, fun z => by simpa using z⟩
    · repeat fail "w"
      rw [e0, if_pos h1]
      rfl
    · repeat fail "w"
      rw [e0, if_neg h1]
      rfl
  | [a, x], hp, hlen =>
    have ha : Sm a := hp a (by simp)
    have hx : Sm x := hp x (by simp)
    have ha0 := ha.ok
    have hl500 : x.length ≤ sizeLine := by have := hx.len; rw [sizeLine_eq]; omega
    have e0 : doneM [a, x] = if a = "say" ∧ wordB x = true then some (.say [x]) else (wholeB x 0 11).bind fun c => if a ∈ (["free", "ready", "quit"] : List Str) then some (.oth (some a) [c]) else none := rfl
    try dsimp only [cxOf, Cx.blk, Cx.blkE]
    repeat fail "i"
    refine ws_ifB False True ?_ (fun h => h.elim) (fun _ => ?_)
    · repeat fail "i"
      refine rd_inJN [a, x] rfl (fun z h => (hp z h).ok) (b := false) (by simp) ?_
      repeat fail "i"
      exact .no trivial
    repeat fail "i"
    refine ws_ifB (a = "say" ∧ wordB x = true) (¬ (a = "say" ∧ wordB x = true)) ?_ (fun h1 => ?_) (fun h1 => ?_)
    · repeat fail "i"
      refine b_if2 (fun h1 => ?_) (fun h1 => ?_)
      · repeat fail "i"
        exact ⟨fun z => ⟨h1, z⟩, fun z q => by rw [q.2] at z; cases z⟩
      · exact .no fun q => h1 q.1
    · repeat fail "w"
      rw [e0, if_pos h1]
      rfl
    rw [if_neg h1] at e0
    cases hw : wholeB x 0 11 with
    | none =>
      rw [hw] at e0
      repeat fail "w"
      refine ⟨(x, 0, 11), rfl, hx, ?_⟩
      rw [hw]
      repeat fail "w"
      rw [e0]
      rfl
    | some c =>
      rw [hw] at e0
      repeat fail "w"
      refine ⟨(x, 0, 11), rfl, hx, ?_⟩
      rw [hw]
      repeat fail "w"
      refine rc_intS (whole_int hx hw) (by have := hx.len; omega) ?_
      repeat fail "i"
      refine ws_ifB (a ∈ (["free", "ready", "quit"] : List Str)) (¬ a ∈ (["free", "ready", "quit"] : List Str)) ?_ (fun h1 => ?_) (fun h1 => ?_)
      · repeat fail "i"
        refine rd_inTW ["free", "ready", "quit"] rfl ha0 (by decide +kernel) ?_
        repeat fail "i"
        exact .dec id id
      · repeat fail "w"
        rw [e0, Option.bind_some, if_pos h1]
        rfl
      · repeat fail "w"
        rw [e0, Option.bind_some, if_neg h1]
        rfl
  | [a, x, y], hp, hlen =>
    have ha : Sm a := hp a (by simp)
    have hx : Sm x := hp x (by simp)
    have hy : Sm y := hp y (by simp)
    have ha0 := ha.ok
    have hl500 : x.length ≤ sizeLine := by have := hx.len; rw [sizeLine_eq]; omega
    have hl501 : y.length ≤ sizeLine := by have := hy.len; rw [sizeLine_eq]; omega
    have e0 : doneM [a, x, y] = (wholeB x 0 11).bind fun c => if a = "do" then (wholeB y 0 8).map fun p => .oth (some a) [c, p] else none := rfl
    try dsimp only [cxOf, Cx.blk, Cx.blkE]
    repeat fail "i"
    refine ws_ifB False True ?_ (fun h => h.elim) (fun _ => ?_)
    · repeat fail "i"
      refine rd_inJN [a, x, y] rfl (fun z h => (hp z h).ok) (b := false) (by simp) ?_
      repeat fail "i"
      exact .no trivial
    cases hw : wholeB x 0 11 with
    | none =>
      rw [hw] at e0
      repeat fail "w"
      refine ⟨(x, 0, 11), rfl, hx, ?_⟩
      rw [hw]
      repeat fail "w"
      rw [e0]
      rfl
    | some c =>
      rw [hw] at e0
      repeat fail "w"
      refine ⟨(x, 0, 11), rfl, hx, ?_⟩
      rw [hw]
      repeat fail "w"
      refine rc_intS (whole_int hx hw) (by have := hx.len; omega) ?_
      repeat fail "i"
      refine ws_ifB False True ?_ (fun h => h.elim) (fun _ => ?_)
      · repeat fail "i"
        exact .no trivial
      repeat fail "i"
      by_cases h1 : a = "do"
      · subst h1
        rw [Option.bind_some, if_pos rfl] at e0
        cases hw2 : wholeB y 0 8 with
        | none =>
          rw [hw2] at e0
          repeat fail "w"
          refine ⟨(y, 0, 8), rfl, hy, ?_⟩
          rw [hw2]
          repeat fail "w"
          rw [e0]
          rfl
        | some p =>
          rw [hw2] at e0
          repeat fail "w"
          refine ⟨(y, 0, 8), rfl, hy, ?_⟩
          rw [hw2]
          repeat fail "w"
          refine rc_intS (whole_int hy hw2) (by have := hy.len; omega) ?_
          repeat fail "w"
          rw [e0]
          rfl
      · rw [Option.bind_some, if_neg h1] at e0
        repeat fail "w"
        rw [decide_eq_false h1]
        repeat fail "w"
        rw [e0]
        rfl
  | [a, x, y, z], hp, hlen =>
    have ha : Sm a := hp a (by simp)
    have hx : Sm x := hp x (by simp)
    have hy : Sm y := hp y (by simp)
    have hz : Sm z := hp z (by simp)
    have ha0 := ha.ok
    have hz0 := hz.ok
    have hl500 : x.length ≤ sizeLine := by have := hx.len; rw [sizeLine_eq]; omega
    have e0 : doneM [a, x, y, z] = (wholeB x 0 11).bind fun c => if (a = "hand" ∧ y = "to") ∧ (wordB z = true ∧ z ≠ "bell") then some (.hand c z) else none := rfl
    try dsimp only [cxOf, Cx.blk, Cx.blkE]
    repeat fail "i"
    refine ws_ifB False True ?_ (fun h => h.elim) (fun _ => ?_)
    · repeat fail "i"
      refine rd_inJN [a, x, y, z] rfl (fun z h => (hp z h).ok) (b := false) (by simp) ?_
      repeat fail "i"
      exact .no trivial
    cases hw : wholeB x 0 11 with
    | none =>
      rw [hw] at e0
      repeat fail "w"
      refine ⟨(x, 0, 11), rfl, hx, ?_⟩
      rw [hw]
      repeat fail "w"
      rw [e0]
      rfl
    | some c =>
      rw [hw] at e0
      repeat fail "w"
      refine ⟨(x, 0, 11), rfl, hx, ?_⟩
      rw [hw]
      repeat fail "w"
      refine rc_intS (whole_int hx hw) (by have := hx.len; omega) ?_
      repeat fail "i"
      refine ws_ifB False True ?_ (fun h => h.elim) (fun _ => ?_)
      · repeat fail "i"
        exact .no trivial
      repeat fail "i"
      refine ws_ifB False True ?_ (fun h => h.elim) (fun _ => ?_)
      · repeat fail "i"
        exact .no trivial
      repeat fail "i"
      refine ws_ifB ((a = "hand" ∧ y = "to") ∧ (wordB z = true ∧ z ≠ "bell")) (¬ ((a = "hand" ∧ y = "to") ∧ (wordB z = true ∧ z ≠ "bell"))) ?_ (fun h1 => ?_) (fun h1 => ?_)
      · repeat fail "i"
        refine wp_even (wp_var rfl ⟨_, _, _, _, rfl, ?_⟩)
        repeat fail "i"
        refine rd_eqLW [a, y] ["hand", "to"] rfl rfl (fun z hz => ?_) (by decide +kernel) ?_
        · simp at hz
          rcases hz with rfl | rfl
          · exact ha0
          · exact hy.ok
        repeat fail "i"
        refine b_if2 (fun h1 => ?_) (fun h1 => ?_)
        · repeat fail "i"
          have h1' : a = "hand" ∧ y = "to" := by simpa using h1
          refine b_if (fun h2 => ?_) (fun h2 => ?_)
          · repeat fail "i"
            exact .ndec (fun h3 => ⟨h1', h2, h3⟩) fun h3 q => q.2.2 h3
          · exact .no fun q => by rw [q.2.1] at h2; cases h2
        · exact .no fun q => h1 (by rw [q.1.1, q.1.2])
      · repeat fail "w"
        rw [e0, Option.bind_some, if_pos h1]
        rfl
      · repeat fail "w"
        rw [e0, Option.bind_some, if_neg h1]
        rfl
  | a :: x :: y :: z :: u :: r, hp, hlen =>
    have hx : Sm x := hp x (by simp)
    have hl500 : x.length ≤ sizeLine := by have := hx.len; rw [sizeLine_eq]; omega
    have e0 : doneM (a :: x :: y :: z :: u :: r) = none := rfl
    have hL : lenD (.list ((a :: x :: y :: z :: u :: r).map PyData.str)) = some ((a :: x :: y :: z :: u :: r).map PyData.str).length := rfl
    try dsimp only [cxOf, Cx.blk, Cx.blkE]
    repeat fail "i"
    refine ws_ifB False True ?_ (fun h => h.elim) (fun _ => ?_)
    · repeat fail "i"
      refine rd_inJN (a :: x :: y :: z :: u :: r) rfl (fun z h => (hp z h).ok) (b := false) (by simp) ?_
      repeat fail "i"
      exact .no trivial
    have hL2 : (((a :: x :: y :: z :: u :: r).map PyData.str).length : Int) = r.length + 5 := by simp; omega
    repeat fail "i"
    refine ws_ifB False True ?_ (fun h => h.elim) (fun _ => ?_)
    · repeat fail "i"
      exact .no trivial
    repeat fail "i"
    refine ws_ifB (wholeB x 0 11 = none) (wholeB x 0 11 ≠ none) ?_ (fun h => ?_) (fun h => ?_)
    · repeat fail "i"
      refine rd_ixL (x := .str x) (atI_nat (j := 1) rfl) ?_
      repeat fail "i"
      refine ⟨(x, 0, 11), rfl, hx, ?_⟩
      cases hw : wholeB x 0 11 with
      | none =>
        repeat fail "i"
        exact .yes rfl
      | some c =>
        repeat fail "i"
        exact .no fun z => by cases z
    · repeat fail "w"
      rfl
    obtain ⟨c, hw⟩ := Option.ne_none_iff_exists'.mp h
    repeat fail "i"
    refine rd_ixL (x := .str x) (atI_nat (j := 1) rfl) ?_
    repeat fail "i"
    refine rc_intS (whole_int hx hw) (by have := hx.len; omega) ?_
    repeat fail "i"
    refine ws_ifB False True ?_ (fun h => h.elim) (fun _ => ?_)
    · repeat fail "i"
      exact .no trivial
    repeat fail "i"
    refine ws_ifB False True ?_ (fun h => h.elim) (fun _ => ?_)
    · repeat fail "i"
      exact .no trivial
    repeat fail "i"
    refine ws_ifB False True ?_ (fun h => h.elim) (fun _ => ?_)
    · repeat fail "i"
      exact .no trivial
    repeat fail "i"
    rfl
end
end K84

/-! part K84D23 -/
set_option maxHeartbeats 1000000
/-! K84D23: the claim that words write, as the law has it. -/
namespace K84
local macro_rules | `(tactic| fail "w") => `(tactic| (first | with_reducible refine wp_neg ?_ | with_reducible refine wp_pick ?_ | with_reducible refine wp_draw ?_ | with_reducible refine ws_seq ?_ | with_reducible refine ws_nx ?_ | with_reducible refine ws_set ?_ | with_reducible refine ws_ret ?_ | with_reducible refine ws_if ?_ | with_reducible refine ws_drop ?_ | with_reducible refine wt_or ?_ | with_reducible refine wt_and ?_ | with_reducible refine wt_not ?_ | with_reducible refine wt_B ?_ | with_reducible refine wt_test ?_ | with_reducible refine wp_chain ?_ | with_reducible refine wp_andV ?_ | with_reducible refine wp_orV ?_ | with_reducible refine wp_notV ?_ | with_reducible refine wp_if ?_ | with_reducible refine wp_int ?_ | with_reducible refine wp_var (by with_unfolding_all rfl) ?_ | with_reducible refine wp_str ?_ | with_reducible refine wp_bl ?_ | with_reducible refine wp_non ?_ | with_reducible refine wp_ref ?_ | with_reducible refine wp_op ?_ | with_reducible refine wp_tup' ?_ | with_reducible refine wp_lst' ?_ | with_reducible refine wa_cons ?_ | with_reducible refine wa_nil ?_ | with_reducible refine wp_sl ?_ | with_reducible refine wo_none ?_ | with_reducible refine wo_some ?_ | with_reducible refine wp_isi' (by simp) ?_ | with_reducible refine wp_allIn (by with_unfolding_all rfl) (by assumption) (by with_unfolding_all exact of_decide_eq_true rfl) (by with_unfolding_all rfl) ?_ | with_reducible refine wp_cb ?_ | with_reducible refine wp_m1 ?_ | with_reducible refine rs_T1 ?_ | with_reducible refine rs_T' (by with_unfolding_all rfl) (by with_unfolding_all rfl) ?_ | with_reducible refine wi_list ?_ | with_reducible refine wi_tup ?_ | with_reducible refine wi_str ?_ | with_reducible refine wi_rng1 ?_ | with_reducible refine wi_rng2 ?_ | with_reducible refine wi_zipT ?_ | with_reducible refine wi_zipM ?_ | with_reducible refine wi_enum ?_ | with_reducible refine rd_ib ?_ | with_reducible refine rd_ii ?_ | with_reducible refine rd_inSg ?_ | with_reducible refine rd_mod (by first | assumption | decide) ?_ | with_reducible refine rd_mul (cmul_r (by decide +kernel)) ?_ | with_reducible refine rd_mul (cmul_l (by decide +kernel)) ?_ | with_reducible refine rc_max ?_ | with_reducible refine rc_min ?_ | with_reducible refine rd_eqI ?_ | with_reducible refine rd_neI ?_ | with_reducible refine rd_eqS (by first | assumption | decide +kernel) (by first | assumption | decide +kernel) ?_ | with_reducible refine rd_neS (by first | assumption | decide +kernel) (by first | assumption | decide +kernel) ?_ | with_reducible refine rd_iC (cpow_ok (by with_unfolding_all rfl)) ?_ | with_reducible refine rd_isN' (b := true) (by with_unfolding_all rfl) ?_ | with_reducible refine rd_isN' (b := false) (by with_unfolding_all rfl) ?_ | with_reducible refine rd_notN' (b := true) (by with_unfolding_all rfl) ?_ | with_reducible refine rd_notN' (b := false) (by with_unfolding_all rfl) ?_ | with_reducible refine rc_len (by first | assumption | with_unfolding_all rfl) ?_ | with_reducible refine rd_ixT0 ?_ | with_reducible refine rd_ixL0 ?_ | with_reducible refine rd_ixT (by first | assumption | with_unfolding_all rfl) ?_ | with_reducible refine rd_ixL (by first | assumption | with_unfolding_all rfl) ?_ | with_reducible refine wp_callF ?_ | with_reducible refine rc_tupL ?_ | with_reducible refine rc_strS ?_ | with_reducible refine rc_all ?_ | with_reducible refine L2.iteT ?_ | with_reducible refine ite_dT (by with_unfolding_all exact of_decide_eq_true rfl) ?_ | with_reducible refine ite_dF (by with_unfolding_all exact of_decide_eq_false rfl) ?_ | with_reducible refine ite_ndT (by with_unfolding_all exact of_decide_eq_true rfl) ?_ | with_reducible refine ite_ndF (by with_unfolding_all exact of_decide_eq_false rfl) ?_ | with_reducible refine L2.iteF ?_ | with_reducible refine ite_nt ?_ | with_reducible refine ite_nf ?_ | refine ⟨_, true, rfl, rfl, ?_⟩ | refine ⟨_, false, rfl, rfl, ?_⟩ | with_reducible refine ⟨_, rfl, ?_⟩ | with_reducible refine ⟨_, _, rfl, ?_⟩ | with_reducible refine And.intro (by first | assumption | exact trivial | with_unfolding_all exact of_decide_eq_true rfl) ?_ | with_reducible refine And.intro Mode.Sub.no ?_ | with_reducible refine ⟨_, (by with_unfolding_all rfl), (by with_unfolding_all exact of_decide_eq_true rfl), ?_⟩))
open PySem PySem.Spec PyProof.Rows L2
def many : List (Str × Int) := [("held", 4), ("kept", 3), ("late", 3), ("twin", 3), ("ill", 2), ("back", 2), ("loose", 2), ("behind", 2), ("ahead", 2)]
def manyOf (z : Str) : Int := ((many.find? fun p => decide (p.1 = z)).map (·.2)).getD 0
def manyK : List (Key × V) := many.map fun p => (.inr p.1, .int p.2)
theorem many_val (z : Str) : ∀ l : List (Str × Int), (valV (l.map fun p => ((.inr p.1 : Key), V.int p.2)) (.inr z)).getD (.int 0) = .int (((l.find? fun p => decide (p.1 = z)).map (·.2)).getD 0)
  | [] => rfl
  | p :: l => by
    rw [List.map_cons, List.find?_cons]
    by_cases h : p.1 = z
    · subst h
      rw [valV_pos rfl, decide_eq_true rfl]
      rfl
    · rw [valV_neg (fun e => h (Sum.inr.inj e)), decide_eq_false h]
      exact many_val z l
theorem many_get (z : Str) : (valV (mergeK [] manyK) (.inr z)).getD (.int 0) = .int (manyOf z) := by
  have e : mergeK [] manyK = manyK := by with_unfolding_all rfl
  rw [e]
  exact many_val z many
def cd1 (ws : List Str) : List PyData := [optN (namedB (Txt.split (ws.getD 1 "") "."))] ++ (if ws.getD 0 "" ∈ (["held", "kept", "late"] : List Str) ∧ 2 < ws.length then [optI (wholeB (ws.getD 2 "") 0 11)] else [])
def cd2 (ws : List Str) : List PyData := cd1 ws ++ (if ws.getD 0 "" = "held" ∧ 3 < ws.length then [optI (wholeB (ws.getD 3 "") 0 (10 ^ 60))] else [])
def cd3 (ws : List Str) : List PyData := cd2 ws ++ (if ws.getD 0 "" = "twin" ∧ 2 < ws.length then [optN (namedB (Txt.split (ws.getD 2 "") "."))] else [])
def isNo : PyData → Bool
  | .none => true
  | _ => false
def claimDueD (ws : List Str) : PyData := if ws.length < 2 then .none else if manyOf (ws.getD 0 "") ≠ ws.length ∨ (cd3 ws).any isNo = true then .none else .tuple (.str (ws.getD 0 "") :: cd3 ws)
def CdOk (y : PyData) : Prop := Lay 1 y ∧ PyData.eqv y .none = isNo y
theorem cdI (o : Option Int) : CdOk (optI o) := by
  cases o with
  | none => exact ⟨.non, rfl⟩
  | some i => exact ⟨.int, rfl⟩
theorem namedB_ok {zs : List Str} (h : ∀ z ∈ zs, Sm z) {p : Nm} (e : namedB zs = some p) : NmOk p ∧ nameB p = true ∧ p.2.2 ≤ 10 ^ 60 := by
  match zs, h, e with
  | [a, b, c], h, e =>
    have e0 : namedB [a, b, c] = if wordB a = true ∧ wordB b = true then (wholeB c 1 (10 ^ 60)).map fun n => (a, b, n) else none := rfl
    rw [e0] at e
    split at e
    · rename_i q
      cases hw : wholeB c 1 (10 ^ 60) with
      | none =>
        rw [hw] at e
        cases e
      | some n =>
        rw [hw] at e
        cases e
        unfold wholeB at hw
        split at hw
        · rename_i q2
          have en := Option.some.inj hw
          refine ⟨⟨h a (by simp), h b (by simp)⟩, ?_, ?_⟩
          · unfold nameB
            show ((wordB a && wordB b) && decide (1 ≤ n)) = true
            rw [q.1, q.2, ← en, decide_eq_true q2.2.1]
            rfl
          · show n ≤ 10 ^ 60
            rw [← en]
            exact q2.2.2
        · cases hw
    · cases e
  | [], h, e => cases e
  | [_], h, e => cases e
  | [_, _], h, e => cases e
  | _ :: _ :: _ :: _ :: _, h, e => cases e
theorem cdN {zs : List Str} (h : ∀ z ∈ zs, Sm z) : CdOk (optN (namedB zs)) := by
  cases e : namedB zs with
  | none => exact ⟨.non, rfl⟩
  | some p => exact ⟨.nm (namedB_ok h e).1, rfl⟩
theorem cd3_ok {a x : Str} {r : List Str} (h : ∀ z ∈ a :: x :: r, Sm z) : ∀ y ∈ cd3 (a :: x :: r), CdOk y := fun y hy => by
  have hs : ∀ {z : Str}, z ∈ a :: x :: r → CdOk (optN (namedB (Txt.split z "."))) := fun hz => cdN fun u hu => split_Sm dot_tl (by decide) (h _ hz) hu
  unfold cd3 cd2 cd1 at hy
  rcases List.mem_append.mp hy with hy | hy
  · rcases List.mem_append.mp hy with hy | hy
    · rcases List.mem_append.mp hy with hy | hy
      · rw [List.mem_singleton.mp hy]
        exact hs (by simp)
      · split at hy
        · rw [List.mem_singleton.mp hy]
          exact cdI _
        · cases hy
    · split at hy
      · rw [List.mem_singleton.mp hy]
        exact cdI _
      · cases hy
  · split at hy
    · rename_i q
      rw [List.mem_singleton.mp hy]
      cases r with
      | nil => exact absurd q.2 (by simp)
      | cons y r => exact hs (by simp)
    · cases hy
theorem any_isNo : ∀ {ys : List PyData}, (∀ y ∈ ys, CdOk y) → (ys.any fun z => PyData.eqv z .none) = ys.any isNo
  | [], _ => rfl
  | y :: ys, h => by
    rw [List.any_cons, List.any_cons, (h y List.mem_cons_self).2, any_isNo fun z hz => h z (List.mem_cons_of_mem _ hz)]
section
variable {P : Program} {w : World} {K : PySem.W.Frag} {mg : Str → Option Value} {base : Heap}
abbrev N_law_claim_due : List Str := ["_law_words", "_law_parts", "_law_many"]
abbrev P_law_claim_due : List Str := ["_law_words"]
theorem sc_law_claim_due : FnScope N_law_claim_due P_law_claim_due (defScope s_law_claim_due) := ⟨rfl, rfl, rfl, by decide +kernel, rfl, by decide +kernel, by decide +kernel⟩
abbrev sp_law_claim_due (K : PySem.W.Frag) : Sp := spD K (CN K) (fun _ => Mode.no) (fun zs : List Str => [.d (.list (zs.map PyData.str))]) (fun zs => (∀ z ∈ zs, Sm z) ∧ zs.length ≤ 500) (fun zs y => y = claimDueD zs) (fun _ => False)
theorem ok_law_claim_due (W : Wd w K mg) : FnI P w K mg base 3 (He.ga K "_law_claim_due") (sp_law_claim_due K) := by
  obtain ⟨fd, F⟩ := W.fd_law_claim_due
  refine FnI.of F sc_law_claim_due (fun _ _ _ _ _ _ us hl => match us, hl with | [_], _ => rfl) (fun _ _ => rfl) fun cdv A outer s H E hr zs ⟨hp, hlen⟩ => ⟨_, (pss_cons (ps_if (pt_cmpR op_lt (pe_callB (callK rLenD K call_lenD2) rfl W.f_len PyProof.Rows.Boot.«len» (pa_cons (pv 0) pa_nil)) pe_int (nomark _)) (pss_one (ps_ret pe_non)) pss_nil)
      (pss_cons (ps_set (i := 1) sc_law_claim_due.nd rfl (Or.inl rfl) (pe_lst (pa_cons (pe_callI (ok_law_named W) hr W.g_law_named passL (pa_cons (pe_m1 PySem.F.slot_str_split PySem.F.type_str_split mt_splitD (pe_ix (ixK rIxL K ix_list) (pv 0) pe_int (fun _ _ => rfl)) pe_str rfl) pa_nil)) pa_nil)))
      (pss_cons (ps_if (PW.pt (pw_and (pt_cmpR (opK rInT K (op_inT (u65 hr))) (pe_ix (ixK rIxL K ix_list) (pv 0) pe_int (fun _ _ => rfl)) (pe_tup (pa_cons pe_str (pa_cons pe_str (pa_cons pe_str pa_nil)))) (by rfl)) (pw_and1 (pt_cmpR op_gt (pe_callB (callK rLenD K call_lenD2) rfl W.f_len PyProof.Rows.Boot.«len» (pa_cons (pv 0) pa_nil)) pe_int (nomark _))))) (pss_one (ps_expr (pe_bmK K PySem.F.plainAttrs_list PySem.F.slot_list_append PySem.F.type_list_append mt_appendR (pv 1) (pa_cons (pe_callI (ok_law_whole W) hr W.g_law_whole passL (pa_cons (pe_ix (ixK rIxL K ix_list) (pv 0) pe_int (fun _ _ => rfl)) (pa_cons pe_int (pa_cons pe_int pa_nil)))) pa_nil)))) pss_nil)
      (pss_cons (ps_if (PW.pt (pw_and (pt_cmpR (opK rEqD K (op_eqD hr.units)) (pe_ix (ixK rIxL K ix_list) (pv 0) pe_int (fun _ _ => rfl)) pe_str (nomark _)) (pw_and1 (pt_cmpR op_gt (pe_callB (callK rLenD K call_lenD2) rfl W.f_len PyProof.Rows.Boot.«len» (pa_cons (pv 0) pa_nil)) pe_int (nomark _))))) (pss_one (ps_expr (pe_bmK K PySem.F.plainAttrs_list PySem.F.slot_list_append PySem.F.type_list_append mt_appendR (pv 1) (pa_cons (pe_callI (ok_law_whole W) hr W.g_law_whole passL (pa_cons (pe_ix (ixK rIxL K ix_list) (pv 0) pe_int (fun _ _ => rfl)) (pa_cons pe_int (pa_cons (pe_op op_pow pe_int pe_int) pa_nil)))) pa_nil)))) pss_nil)
      (pss_cons (ps_if (PW.pt (pw_and (pt_cmpR (opK rEqD K (op_eqD hr.units)) (pe_ix (ixK rIxL K ix_list) (pv 0) pe_int (fun _ _ => rfl)) pe_str (nomark _)) (pw_and1 (pt_cmpR op_gt (pe_callB (callK rLenD K call_lenD2) rfl W.f_len PyProof.Rows.Boot.«len» (pa_cons (pv 0) pa_nil)) pe_int (nomark _))))) (pss_one (ps_expr (pe_bmK K PySem.F.plainAttrs_list PySem.F.slot_list_append PySem.F.type_list_append mt_appendR (pv 1) (pa_cons (pe_callI (ok_law_named W) hr W.g_law_named passL (pa_cons (pe_m1 PySem.F.slot_str_split PySem.F.type_str_split mt_splitD (pe_ix (ixK rIxL K ix_list) (pv 0) pe_int (fun _ _ => rfl)) pe_str rfl) pa_nil)) pa_nil)))) pss_nil)
      (pss_cons (ps_set (i := 2) sc_law_claim_due.nd rfl (Or.inl rfl) (pe_disp (pps_cons pe_str pe_int (pps_cons pe_str pe_int (pps_cons pe_str pe_int (pps_cons pe_str pe_int (pps_cons pe_str pe_int (pps_cons pe_str pe_int (pps_cons pe_str pe_int (pps_cons pe_str pe_int (pps_cons pe_str pe_int pps_nil))))))))) rfl rfl (fun z => nomatch z) (by decide)))
      (pss_cons (ps_if (PW.pt (pw_or (pt_cmpR (opK rNeD K (op_neD hr.units)) (pe_dget2 (Nat.lt_of_le_of_lt (Nat.add_le_add_left (by decide) _) (u65 hr)) (pv 2) (pe_ix (ixK rIxL K ix_list) (pv 0) pe_int (fun _ _ => rfl)) pe_int ⟨rfl, rfl, rfl, rfl⟩) (pe_callB (callK rLenD K call_lenD2) rfl W.f_len PyProof.Rows.Boot.«len» (pa_cons (pv 0) pa_nil)) (nomark _)) (pw_or1 (pt_cmpR (opK rInD K (op_inD (u65 hr))) pe_non (pv 1) (by rfl))))) (pss_one (ps_ret pe_non)) pss_nil)
      (pss_one (ps_ret (pe_callTy (callK rTupL K call_tupL) rfl W.f_tuple PyProof.Rows.Boot.«tuple» (pa_cons (pe_op op_cat (pe_slice (slK rSlL K sl_list) (pv 0) po_none (po_some pe_int)) (pv 1)) pa_nil))))))))))), ?_⟩
  match zs, hp, hlen with
  | [], hp, hlen =>
    try dsimp only [cxOf, Cx.blk, Cx.blkE]
    repeat fail "w"
    rfl
  | [a], hp, hlen =>
    try dsimp only [cxOf, Cx.blk, Cx.blkE]
    repeat fail "w"
    rfl
  | a :: x :: r, hp, hlen =>
    have hp : ∀ z ∈ a :: x :: r, Sm z := hp
    have ha : Sm a := hp a (by simp)
    have hx : Sm x := hp x (by simp)
    have ha0 := ha.ok
    have hxl := hx.len
    have hl500 : (a :: x :: r).length ≤ 500 := hlen
    have hml : ((a :: x :: r).map PyData.str).length = (a :: x :: r).length := List.length_map ..
    have hi0 : atI ((a :: x :: r).map PyData.str) 0 = some (.str a) := atI_nat (j := 0) rfl
    try dsimp only [cxOf, Cx.blk, Cx.blkE]
    refine fs_one (Γ := ⟨K, E, CN K⟩) (M := Mode.no) ?_
    refine fs_seq (fs_ifL False True ?_ (fun h => h.elim) (fun _ => fs_nx ?_))
    · repeat fail "w"
      exact .no trivial
    refine fs_new (N := cnD K) ownDD (fr_lstD rfl (fa_lift0 ?_))
    repeat fail "w"
    refine rd_ixL (x := .str x) (atI_nat (j := 1) rfl) ?_
    repeat fail "w"
    refine rt_split (by decide +kernel) (by rw [sizeLine_eq]; omega) ?_
    repeat fail "w"
    refine ⟨fun z hz => split_Sm dot_tl (by decide) hx hz, ?_⟩
    repeat fail "w"
    intro q1 hq1
    let st : Sd := [some (.d (.list ((a :: x :: r).map PyData.str))), some (.r q1), none]
    have g0 : (a :: x :: r).getD 0 "" = a := rfl
    refine fs_midR (fun s1 c1 => s1 = st ∧ c1 = ((), cd1 (a :: x :: r))) (fs_ifL (a ∈ (["held", "kept", "late"] : List Str) ∧ 2 < (a :: x :: r).length) (¬ (a ∈ (["held", "kept", "late"] : List Str) ∧ 2 < (a :: x :: r).length)) ?_ (fun h1 => ?_) (fun h1 => fs_nx ⟨rfl, ?_⟩)) ?_
    · repeat fail "w"
      refine rd_inTW ["held", "kept", "late"] rfl ha0 (by decide +kernel) ?_
      repeat fail "w"
      refine b_if2 (fun h1 => ?_) (fun h1 => ?_)
      · repeat fail "w"
        exact .dec (fun h2 => ⟨h1, by omega⟩) fun h2 q => h2 (by omega)
      · exact .no fun q => h1 q.1
    · obtain ⟨y, r', rfl⟩ : ∃ y r', r = y :: r' := by
        cases r with
        | nil => exact absurd h1.2 (by simp)
        | cons y r' => exact ⟨y, r', rfl⟩
      refine fs_bm hq1 rfl (fa_cons (wf_lift0 ?_))
      repeat fail "w"
      refine rd_ixL (x := .str y) (atI_nat (j := 2) rfl) ?_
      repeat fail "w"
      refine ⟨(y, 0, 11), rfl, hp y (by simp), ?_⟩
      refine fa_nil ⟨_, ch_appD (by simp), rfl, ?_⟩
      unfold cd1
      rw [g0, if_pos h1]
      rfl
    · unfold cd1
      rw [g0, if_neg h1]
      rfl
    rintro _ _ ⟨rfl, rfl⟩
    have l1 : (cd1 (a :: x :: r)).length ≤ 2 := by
      unfold cd1
      split <;> simp
    refine fs_midR (fun s1 c1 => s1 = st ∧ c1 = ((), cd2 (a :: x :: r))) (fs_ifL (a = "held" ∧ 3 < (a :: x :: r).length) (¬ (a = "held" ∧ 3 < (a :: x :: r).length)) ?_ (fun h1 => ?_) (fun h1 => fs_nx ⟨rfl, ?_⟩)) ?_
    · repeat fail "w"
      refine b_if2 (fun h1 => ?_) (fun h1 => ?_)
      · repeat fail "w"
        exact .dec (fun h2 => ⟨h1, by omega⟩) fun h2 q => h2 (by omega)
      · exact .no fun q => h1 q.1
    · obtain ⟨y, y2, r', rfl⟩ : ∃ y y2 r', r = y :: y2 :: r' := by
        match r, h1 with
        | [], h1 => exact absurd h1.2 (by simp)
        | [_], h1 => exact absurd h1.2 (by simp)
        | y :: y2 :: r', _ => exact ⟨y, y2, r', rfl⟩
      refine fs_bm hq1 rfl (fa_cons (wf_lift0 ?_))
      repeat fail "w"
      refine rd_ixL (x := .str y2) (atI_nat (j := 3) rfl) ?_
      repeat fail "w"
      refine ⟨(y2, 0, 10 ^ 60), rfl, hp y2 (by simp), ?_⟩
      refine fa_nil ⟨_, ch_appD (by omega), rfl, ?_⟩
      unfold cd2
      rw [g0, if_pos h1]
      rfl
    · unfold cd2
      rw [g0, if_neg h1]
      simp
    rintro _ _ ⟨rfl, rfl⟩
    have l2 : (cd2 (a :: x :: r)).length ≤ 3 := by
      unfold cd2
      rw [List.length_append]
      split <;> simp <;> omega
    refine fs_midR (fun s1 c1 => s1 = st ∧ c1 = ((), cd3 (a :: x :: r))) (fs_ifL (a = "twin" ∧ 2 < (a :: x :: r).length) (¬ (a = "twin" ∧ 2 < (a :: x :: r).length)) ?_ (fun h1 => ?_) (fun h1 => fs_nx ⟨rfl, ?_⟩)) ?_
    · repeat fail "w"
      refine b_if2 (fun h1 => ?_) (fun h1 => ?_)
      · repeat fail "w"
        exact .dec (fun h2 => ⟨h1, by omega⟩) fun h2 q => h2 (by omega)
      · exact .no fun q => h1 q.1
    · obtain ⟨y, r', rfl⟩ : ∃ y r', r = y :: r' := by
        cases r with
        | nil => exact absurd h1.2 (by simp)
        | cons y r' => exact ⟨y, r', rfl⟩
      have hy : Sm y := hp y (by simp)
      have hyl := hy.len
      refine fs_bm hq1 rfl (fa_cons (wf_lift0 ?_))
      repeat fail "w"
      refine rd_ixL (x := .str y) (atI_nat (j := 2) rfl) ?_
      repeat fail "w"
      refine rt_split (by decide +kernel) (by rw [sizeLine_eq]; omega) ?_
      repeat fail "w"
      refine ⟨fun z hz => split_Sm dot_tl (by decide) hy hz, ?_⟩
      refine fa_nil ⟨_, ch_appD (by omega), rfl, ?_⟩
      unfold cd3
      rw [g0, if_pos h1]
      rfl
    · unfold cd3
      rw [g0, if_neg h1]
      simp
    rintro _ _ ⟨rfl, rfl⟩
    have l3 : (cd3 (a :: x :: r)).length ≤ 4 := by
      unfold cd3
      rw [List.length_append]
      split <;> simp <;> omega
    have hcd := cd3_ok hp
    refine fs_newK manyK rfl (by decide) fun q2 hq2 => ?_
    refine fs_seq (fs_ifC (manyOf a ≠ (a :: x :: r).length ∨ (cd3 (a :: x :: r)).any isNo = true) (¬ (manyOf a ≠ (a :: x :: r).length ∨ (cd3 (a :: x :: r)).any isNo = true)) (ft_or (ft_test (wf_op (wf_kgetD rfl ?_)))) (fun h1 => fs_ret (wf_lift0 ?_)) (fun h1 => fs_nx ?_))
    · repeat fail "w"
      refine ⟨0, _, rfl, many_get a, wf_lift0 ?_⟩
      repeat fail "w"
      refine b_ifn (fun h2 => ?_) (fun h2 => ?_)
      · refine ft_sub (FSub.kcell hq2) (ft_peekD ownDD hq1 1 rfl ?_)
        repeat fail "w"
        refine rd_inL (by decide +kernel) (Lay.sh (n := 2) (.lst fun y hy => (hcd y hy).1)) ?_
        repeat fail "w"
        rw [show (id (cd3 (a :: x :: r))) = cd3 (a :: x :: r) from rfl, any_isNo hcd]
        exact ⟨rfl, ⟨.inr, fun z q => q.elim (fun q => q (by rw [h2, hml])) fun q => by rw [q] at z; cases z⟩⟩
      · exact ⟨rfl, .yes (.inl fun q => h2 (by rw [q, hml]))⟩
    · refine wp_non (.inr ⟨_, rfl, ?_⟩)
      show _ = claimDueD (a :: x :: r)
      unfold claimDueD
      rw [if_neg (by simp), g0, if_pos h1]
    · refine fs_ret (wf_sub (FSub.kcell hq2) (wf_cb (fa_cons (wf_catOwn ownDD rfl ?_))))
      repeat fail "w"
      refine rs_takeM (n := 1) (f := PyData.str) (xs := a :: x :: r) ?_
      refine ⟨_, rfl, by simp; omega, fa_nil (rc_tupL ?_)⟩
      refine .inr ⟨_, rfl, ?_⟩
      show _ = claimDueD (a :: x :: r)
      unfold claimDueD
      rw [if_neg (by simp), g0, if_neg h1]
      rfl
end
end K84

/-! part K84D10 -/
set_option maxHeartbeats 1000000
/-! K84D10: deed_words, shown_letter, shown_claim. -/
namespace K84
local macro_rules | `(tactic| fail "f") => `(tactic| (first | with_reducible refine fs_nx ?_ | with_reducible refine fs_ret ?_ | with_reducible refine fs_if ?_ | with_reducible refine ft_B ?_ | with_reducible refine ft_test ?_ | with_reducible refine ft_not ?_ | with_reducible refine wf_op ?_ | with_reducible refine wf_cb ?_ | with_reducible refine wf_tup ?_ | with_reducible refine fa_cons ?_ | with_reducible refine fa_nil ?_ | with_reducible refine wf_vr (by with_unfolding_all rfl) ?_ | with_reducible refine wf_in ?_ | with_reducible refine wf_st ?_ | with_reducible refine wf_b ?_ | with_reducible refine wf_nn ?_ | fail "w"))
local macro_rules | `(tactic| fail "w") => `(tactic| (first | with_reducible refine wp_neg ?_ | with_reducible refine wp_pick ?_ | with_reducible refine wp_draw ?_ | with_reducible refine ws_seq ?_ | with_reducible refine ws_nx ?_ | with_reducible refine ws_set ?_ | with_reducible refine ws_ret ?_ | with_reducible refine ws_if ?_ | with_reducible refine ws_drop ?_ | with_reducible refine wt_or ?_ | with_reducible refine wt_and ?_ | with_reducible refine wt_not ?_ | with_reducible refine wt_B ?_ | with_reducible refine wt_test ?_ | with_reducible refine wp_chain ?_ | with_reducible refine wp_andV ?_ | with_reducible refine wp_orV ?_ | with_reducible refine wp_notV ?_ | with_reducible refine wp_if ?_ | with_reducible refine wp_int ?_ | with_reducible refine wp_var (by with_unfolding_all rfl) ?_ | with_reducible refine wp_str ?_ | with_reducible refine wp_bl ?_ | with_reducible refine wp_non ?_ | with_reducible refine wp_ref ?_ | with_reducible refine wp_op ?_ | with_reducible refine wp_tup' ?_ | with_reducible refine wp_lst' ?_ | with_reducible refine wa_cons ?_ | with_reducible refine wa_nil ?_ | with_reducible refine wp_sl ?_ | with_reducible refine wo_none ?_ | with_reducible refine wo_some ?_ | with_reducible refine wp_isi' (by simp) ?_ | with_reducible refine wp_allIn (by with_unfolding_all rfl) (by assumption) (by with_unfolding_all exact of_decide_eq_true rfl) (by with_unfolding_all rfl) ?_ | with_reducible refine wp_cb ?_ | with_reducible refine wp_m1 ?_ | with_reducible refine rs_T1 ?_ | with_reducible refine rs_T' (by with_unfolding_all rfl) (by with_unfolding_all rfl) ?_ | with_reducible refine wi_list ?_ | with_reducible refine wi_tup ?_ | with_reducible refine wi_str ?_ | with_reducible refine wi_rng1 ?_ | with_reducible refine wi_rng2 ?_ | with_reducible refine wi_zipT ?_ | with_reducible refine wi_zipM ?_ | with_reducible refine wi_enum ?_ | with_reducible refine rd_ib ?_ | with_reducible refine rd_ii ?_ | with_reducible refine rd_inSg ?_ | with_reducible refine rd_mod (by first | assumption | decide) ?_ | with_reducible refine rd_mul (cmul_r (by decide +kernel)) ?_ | with_reducible refine rd_mul (cmul_l (by decide +kernel)) ?_ | with_reducible refine rc_max ?_ | with_reducible refine rc_min ?_ | with_reducible refine rd_eqI ?_ | with_reducible refine rd_neI ?_ | with_reducible refine rd_eqS (by first | assumption | decide +kernel) (by first | assumption | decide +kernel) ?_ | with_reducible refine rd_neS (by first | assumption | decide +kernel) (by first | assumption | decide +kernel) ?_ | with_reducible refine rd_iC (cpow_ok (by with_unfolding_all rfl)) ?_ | with_reducible refine rd_isN' (b := true) (by with_unfolding_all rfl) ?_ | with_reducible refine rd_isN' (b := false) (by with_unfolding_all rfl) ?_ | with_reducible refine rd_notN' (b := true) (by with_unfolding_all rfl) ?_ | with_reducible refine rd_notN' (b := false) (by with_unfolding_all rfl) ?_ | with_reducible refine rc_len (by first | assumption | with_unfolding_all rfl) ?_ | with_reducible refine rd_ixT0 ?_ | with_reducible refine rd_ixL0 ?_ | with_reducible refine rd_ixT (by first | assumption | with_unfolding_all rfl) ?_ | with_reducible refine rd_ixL (by first | assumption | with_unfolding_all rfl) ?_ | with_reducible refine wp_callF ?_ | with_reducible refine rc_tupL ?_ | with_reducible refine rc_strS ?_ | with_reducible refine rc_all ?_ | with_reducible refine L2.iteT ?_ | with_reducible refine ite_dT (by with_unfolding_all exact of_decide_eq_true rfl) ?_ | with_reducible refine ite_dF (by with_unfolding_all exact of_decide_eq_false rfl) ?_ | with_reducible refine ite_ndT (by with_unfolding_all exact of_decide_eq_true rfl) ?_ | with_reducible refine ite_ndF (by with_unfolding_all exact of_decide_eq_false rfl) ?_ | with_reducible refine L2.iteF ?_ | with_reducible refine ite_nt ?_ | with_reducible refine ite_nf ?_ | refine ⟨_, true, rfl, rfl, ?_⟩ | refine ⟨_, false, rfl, rfl, ?_⟩ | with_reducible refine ⟨_, rfl, ?_⟩ | with_reducible refine ⟨_, _, rfl, ?_⟩ | with_reducible refine And.intro (by first | assumption | exact trivial | with_unfolding_all exact of_decide_eq_true rfl) ?_ | with_reducible refine And.intro Mode.Sub.no ?_ | with_reducible refine ⟨_, (by with_unfolding_all rfl), (by with_unfolding_all exact of_decide_eq_true rfl), ?_⟩))
open PySem PySem.Spec PyProof.Rows L2
def deedI : Deed → List It2
  | .say ws => .s "say" :: ws.map .s
  | .hand c h => [.s "hand", .i c, .s h]
  | .oth none ns => ns.map .i
  | .oth (some w) ns => .s w :: ns.map .i
theorem deedI_L : ∀ d : Deed, (deedI d).map It2.D = d.L
  | .say ws => by show _ :: (ws.map It2.s).map It2.D = _ :: _; rw [List.map_map]; rfl
  | .hand c h => rfl
  | .oth none ns => by show (ns.map It2.i).map It2.D = _; rw [List.map_map]; rfl
  | .oth (some w) ns => by show _ :: (ns.map It2.i).map It2.D = _ :: _; rw [List.map_map]; rfl
def deedT : Deed → List Str
  | .hand c h => ["hand", numT c, "to", h]
  | d => (deedI d).map It2.T
def shownL (l : Letter) : List Str := ((([l.name.1, l.name.2.1, numT l.name.2.2] ++ (if 0 < l.prev then (["after", numT l.prev] : List Str) else [])) ++ (if 0 < l.gots.length then (["got"] : List Str) ++ l.gots.map nameT else [])) ++ (["at", numT l.time ++ ":"] : List Str)) ++ deedT l.deed
structure Letter.Nums (l : Letter) : Prop where
  name : Bi l.name.2.2
  prev : Bi l.prev
  time : Bi l.time
  gots : ∀ g ∈ l.gots, Bi g.2.2
theorem sum_le : ∀ {ws : List Str} {n : Nat}, (∀ z ∈ ws, z.length ≤ n) → (ws.map (·.length)).sum ≤ ws.length * n
  | [], _, _ => Nat.zero_le _
  | a :: r, n, h => by
    have h1 := h a List.mem_cons_self
    have h2 := sum_le (ws := r) (n := n) fun z hz => h z (List.mem_cons_of_mem _ hz)
    rw [List.map_cons, List.sum_cons, List.length_cons, Nat.succ_mul]
    omega
theorem join_room {ws : List Str} {y : Str} (h : ∀ z ∈ ws, z.length ≤ 1000) (hl : ws.length ≤ 2000) (hy : y.length ≤ 1) : (ws.map (·.length)).sum + ws.length * y.length ≤ 16777216 := by
  have h1 := sum_le h
  have h2 : ws.length * 1000 ≤ 2000 * 1000 := Nat.mul_le_mul_right _ hl
  have h3 : ws.length * y.length ≤ 2000 * 1 := Nat.mul_le_mul hl hy
  omega
theorem rd_catW {Γ : Ctx} {k : Dv → Prop} {ds es : List PyData} (xs ys : List Str) (hd : ds = xs.map PyData.str) (he : es = ys.map PyData.str) (hl : xs.length + ys.length ≤ 2000) (q : k (.d (.list ((xs ++ ys).map PyData.str)))) : RD Γ rCat (.d (.list ds)) (.d (.list es)) k := by
  subst hd he
  exact rd_catL (by rw [List.length_map, List.length_map, sizeLine_eq]; omega) (by rw [← List.map_append]; exact q)
section
variable {P : Program} {w : World} {K : PySem.W.Frag} {mg : Str → Option Value} {base : Heap}
abbrev N_deed_words : List Str := ["deed", "part"]
abbrev P_deed_words : List Str := ["deed"]
theorem sc_deed_words : FnScope N_deed_words P_deed_words (defScope s_deed_words) := ⟨rfl, rfl, rfl, by decide +kernel, rfl, by decide +kernel, by decide +kernel⟩
abbrev sp_deed_words (K : PySem.W.Frag) : Sp := spD K (CN K) (fun _ => Mode.no) (fun d : Deed => [.d (.tuple d.L)]) (fun d => d.Ok ∧ deedB d = true) (fun d y => y = .list ((deedT d).map PyData.str)) (fun _ => False)
theorem deedB_bi {c : Int} (h : clauseB c = true) : Bi c := by
  unfold clauseB at h
  simp at h
  exact ⟨h.1, by have := h.2; omega⟩
/-- its words one by one -/
theorem deed_its {d : Deed} (h1 : d.Ok) (h2 : deedB d = true) (h3 : ∀ c h, d ≠ .hand c h) : (∃ z r, deedI d = .s z :: r ∧ z ≠ "hand" ∧ Sm z) ∧ (∀ a ∈ deedI d, a.Ok) ∧ (deedI d).length ≤ 3 := by
  match d, h1, h2, h3 with
  | .say [x], h1, h2, _ =>
    have hs : Sm "say" := ⟨by decide +kernel, by decide +kernel⟩
    exact ⟨⟨"say", _, rfl, by decide +kernel, hs⟩, fun a ha => by simp [deedI] at ha; rcases ha with rfl | rfl; exact hs; exact h1 x (by simp), by simp [deedI]⟩
  | .hand c h, _, _, h3 => exact absurd rfl (h3 c h)
  | .oth (some w) [], h1, h2, _ => exact ⟨⟨w, _, rfl, h1.2.2, h1.1⟩, fun a ha => by simp [deedI] at ha; rw [ha]; exact h1.1, by show 1 ≤ 3; decide⟩
  | .oth (some w) [c], h1, h2, _ =>
    have hc : Bi c := deedB_bi (by
      have h2' : (clauseB c && _) = true := h2
      rw [Bool.and_eq_true] at h2'
      exact h2'.1)
    exact ⟨⟨w, _, rfl, h1.2.2, h1.1⟩, fun a ha => by simp [deedI] at ha; rcases ha with rfl | rfl; exact h1.1; exact hc, by show 2 ≤ 3; decide⟩
  | .oth (some w) [c, p], h1, h2, _ =>
    have h2' : (clauseB c && (decide (w = "do") && (decide (0 ≤ p) && decide (p ≤ 8)))) = true := h2
    simp only [Bool.and_eq_true, decide_eq_true_eq] at h2'
    have hc : Bi c := deedB_bi h2'.1
    have hp : Bi p := ⟨h2'.2.2.1, by have := h2'.2.2.2; omega⟩
    exact ⟨⟨w, _, rfl, h1.2.2, h1.1⟩, fun a ha => by simp [deedI] at ha; rcases ha with rfl | rfl | rfl; exact h1.1; exact hc; exact hp, by show 3 ≤ 3; decide⟩
theorem ok_deed_words (W : Wd w K mg) : FnI P w K mg base 1 (He.ga K "deed_words") (sp_deed_words K) := by
  obtain ⟨fd, F⟩ := W.fd_deed_words
  refine FnI.of F sc_deed_words (fun _ _ _ _ _ _ us hl => match us, hl with | [_], _ => rfl) (fun _ _ => rfl) fun cdv A outer s H E hr d ⟨h1, h2⟩ => ⟨_, (pss_cons (ps_if (pt_cmpR (opK rEqD K (op_eqD hr.units)) (pe_ix (ixK rIxT K ix_tup) (pv 0) pe_int (fun _ _ => rfl)) pe_str (nomark _)) (pss_one (ps_ret (pe_lst (pa_cons pe_str (pa_cons (pe_callTy call_str rfl W.f_str PyProof.Rows.Boot.«str» (pa_cons (pe_ix (ixK rIxT K ix_tup) (pv 0) pe_int (fun _ _ => rfl)) pa_nil)) (pa_cons pe_str (pa_cons (pe_ix (ixK rIxT K ix_tup) (pv 0) pe_int (fun _ _ => rfl)) pa_nil))))))) pss_nil)
      (pss_one (ps_ret (pe_lc (own := [("part", 1)]) (g := gName 1) (tt := tYes) rfl sc_deed_words.nd (pi_tup (pv 0)) (blkOk_by (own := [("part", 1)]) (N := N_deed_words) (sc := defScope s_deed_words) (by decide +kernel)) (fun _ _ _ _ _ => (pg_name (i := 1) sc_deed_words.nd rfl (Or.inl rfl))) (fun _ _ _ _ _ => pts_nil) (fun _ _ _ _ _ => (pe_callTy call_str rfl W.f_str PyProof.Rows.Boot.«str» (pa_cons (pv 1) pa_nil))))))), ?_⟩
  by_cases hh : ∃ c h, d = .hand c h
  · obtain ⟨c, h, rfl⟩ := hh
    have h2' : (clauseB c && houseB h) = true := h2
    rw [Bool.and_eq_true] at h2'
    have hc := deedB_bi h2'.1
    simp only [Deed.L]
    try dsimp only [cxOf, Cx.blk, Cx.blkE]
    repeat fail "w"
    refine rc_strN hc ?_
    repeat fail "w"
    rfl
  · have hh' : ∀ c h, d ≠ .hand c h := fun c h e => hh ⟨c, h, e⟩
    obtain ⟨⟨z, r, e1, e2, e3⟩, e4, e5⟩ := deed_its h1 h2 hh'
    have eT : deedT d = (deedI d).map It2.T := by
      match d, hh' with
      | .say _, _ => rfl
      | .hand c h, hh' => exact absurd rfl (hh' c h)
      | .oth _ _, _ => rfl
    have e3' := e3.ok
    rw [eT, ← deedI_L]
    rw [e1] at e4 e5 ⊢
    try dsimp only [cxOf, Cx.blk, Cx.blkE]
    repeat fail "w"
    refine rd_ixT (atI_map (n := 0) (x := .s z) rfl) ?_
    repeat fail "w"
    refine rd_eqS e3' (by decide +kernel) ?_
    refine ⟨_, rfl, ?_⟩
    refine b_if2 (fun q => absurd q e2) (fun _ => ?_)
    repeat fail "w"
    refine wp_lcG (γ := It2) It2.D (fun a => .str a.T) It2.D_inj ?_
    repeat fail "w"
    refine ⟨.s z :: r, by rw [List.map_map]; rfl, by omega, fun c hc => ⟨_, tgt_name (by decide), ?_⟩, ?_⟩
    · have hok := e4 c hc
      repeat fail "w"
      refine rc_str2 hok ?_
      repeat fail "w"
      rfl
    · repeat fail "w"
      rw [List.map_map]
      rfl
theorem deedT_len {d : Deed} (h1 : d.Ok) (h2 : deedB d = true) : (deedT d).length ≤ 4 := by
  by_cases hh : ∃ c h, d = .hand c h
  · obtain ⟨c, h, rfl⟩ := hh
    simp [deedT]
  · have hh' : ∀ c h, d ≠ .hand c h := fun c h e => hh ⟨c, h, e⟩
    have e : deedT d = (deedI d).map It2.T := by
      match d, hh' with
      | .say _, _ => rfl
      | .hand c h, hh' => exact absurd rfl (hh' c h)
      | .oth _ _, _ => rfl
    have := (deed_its h1 h2 hh').2.2
    rw [e, List.length_map]
    omega
theorem nameT_Sm {p : Nm} (h : NmOk p) (hb : Bi p.2.2) : (nameT p).length ≤ 1510 := by
  have k1 : p.1.length ≤ 500 := h.1.len
  have k2 : p.2.1.length ≤ 500 := h.2.len
  have k3 : (numT p.2.2).length ≤ 500 := (numT_Sm hb).len
  have kd : Str.length "." = 1 := by decide +kernel
  unfold nameT
  rw [len_app, len_app, len_app, len_app]
  omega
abbrev N_shown_letter : List Str := ["letter", "house", "deal", "number", "prev", "gots", "time", "deed", "words", "name"]
abbrev P_shown_letter : List Str := ["letter"]
theorem sc_shown_letter : FnScope N_shown_letter P_shown_letter (defScope s_shown_letter) := ⟨rfl, rfl, rfl, by decide +kernel, rfl, by decide +kernel, by decide +kernel⟩
abbrev sp_shown_letter (K : PySem.W.Frag) : Sp := spD K (CN K) (fun _ => Mode.no) (fun l : Letter => [.d l.D]) (fun l => l.Ok ∧ letterB l = true ∧ l.Nums ∧ ∀ z ∈ shownL l, z.length ≤ 1000) (fun l y => y = .str (Txt.join " " (shownL l))) (fun _ => False)
theorem ok_shown_letter (W : Wd w K mg) : FnI P w K mg base 2 (He.ga K "shown_letter") (sp_shown_letter K) := by
  obtain ⟨fd, F⟩ := W.fd_shown_letter
  refine FnI.of F sc_shown_letter (fun _ _ _ _ _ _ us hl => match us, hl with | [_], _ => rfl) (fun _ _ => rfl) fun cdv A outer s H E hr ⟨⟨a, b, n⟩, pr, gs, tm, de⟩ ⟨h1, h2, h3, h4⟩ => ⟨_, (pss_cons (ps_asg (pv 0) (pg_tupK 7 K rfl (pgs_cons (pg_name (i := 1) sc_shown_letter.nd rfl (Or.inl rfl)) (pgs_cons (pg_name (i := 2) sc_shown_letter.nd rfl (Or.inl rfl)) (pgs_cons (pg_name (i := 3) sc_shown_letter.nd rfl (Or.inl rfl)) (pgs_cons (pg_name (i := 4) sc_shown_letter.nd rfl (Or.inl rfl)) (pgs_cons (pg_name (i := 5) sc_shown_letter.nd rfl (Or.inl rfl)) (pgs_cons (pg_name (i := 6) sc_shown_letter.nd rfl (Or.inl rfl)) (pgs_cons (pg_name (i := 7) sc_shown_letter.nd rfl (Or.inl rfl)) pgs_nil)))))))))
      (pss_cons (ps_set (i := 8) sc_shown_letter.nd rfl (Or.inl rfl) (pe_lst (pa_cons (pv 1) (pa_cons (pv 2) (pa_cons (pe_callTy call_str rfl W.f_str PyProof.Rows.Boot.«str» (pa_cons (pv 3) pa_nil)) pa_nil)))))
      (pss_cons (ps_if (pt_cmpR op_gt (pv 4) pe_int (nomark _)) (pss_one (ps_expr (pe_bmK K PySem.F.plainAttrs_list PySem.F.slot_list_extend PySem.F.type_list_extend mt_extendR (pv 8) (pa_cons (pe_lst (pa_cons pe_str (pa_cons (pe_callTy call_str rfl W.f_str PyProof.Rows.Boot.«str» (pa_cons (pv 4) pa_nil)) pa_nil))) pa_nil)))) pss_nil)
      (pss_cons (ps_if (pt_cmpR op_gt (pe_callB (callK rLenD K call_lenD2) rfl W.f_len PyProof.Rows.Boot.«len» (pa_cons (pv 5) pa_nil)) pe_int (nomark _)) (pss_cons (ps_expr (pe_bmK K PySem.F.plainAttrs_list PySem.F.slot_list_append PySem.F.type_list_append mt_appendR (pv 8) (pa_cons pe_str pa_nil)))
      (pss_one (ps_expr (pe_bmK K PySem.F.plainAttrs_list PySem.F.slot_list_extend PySem.F.type_list_extend mt_extendR (pv 8) (pa_cons (pe_lc (own := [("name", 9)]) (g := gName 9) (tt := tYes) rfl sc_shown_letter.nd (pi_tup (pv 5)) (blkOk_by (own := [("name", 9)]) (N := N_shown_letter) (sc := defScope s_shown_letter) (by decide +kernel)) (fun _ _ _ _ _ => (pg_name (i := 9) sc_shown_letter.nd rfl (Or.inl rfl))) (fun _ _ _ _ _ => pts_nil) (fun _ _ _ _ _ => (pe_callI (ok_name_text W) hr W.g_name_text passL (pa_cons (pv 9) pa_nil)))) pa_nil))))) pss_nil)
      (pss_one (ps_ret (pe_m1 PySem.F.slot_str_join PySem.F.type_str_join (mtK rJoin K mt_joinD) pe_str (pe_op op_cat (pe_op op_cat (pv 8) (pe_lst (pa_cons pe_str (pa_cons (pe_op op_catS (pe_callTy call_str rfl W.f_str PyProof.Rows.Boot.«str» (pa_cons (pv 6) pa_nil)) pe_str) pa_nil)))) (pe_callI (ok_deed_words W) hr W.g_deed_words passL (pa_cons (pv 7) pa_nil))) rfl))))))), ?_⟩
  simp only [Letter.D]
  try dsimp only [cxOf, Cx.blk, Cx.blkE]
  have b1 : Bi n := h3.name
  have b2 : Bi pr := h3.prev
  have b3 : Bi tm := h3.time
  refine fs_one (Γ := ⟨K, E, CN K⟩) (M := Mode.no) ?_
  refine fs_seq (fs_lift0 ?_)
  refine ws_unp (.cons _ (.cons _ (.cons _ (.cons _ (.cons _ (.cons _ (.cons _ .nil))))))) ?_
  repeat fail "w"
  refine fs_new (N := cnS) ownS (fr_lstS ?_)
  repeat fail "f"
  refine rc_strN b1 ?_
  repeat fail "f"
  refine ⟨[a, b, numT n], rfl, by simp, fun q hq => ?_⟩
  refine fs_mid ((), [a, b, numT n] ++ (if 0 < pr then (["after", numT pr] : List Str) else [])) (fs_if (ft_lift0 ?_)) ?_
  · repeat fail "w"
    refine b_if2 (fun h => ?_) (fun h => ?_)
    · refine fs_bm hq rfl (fa_lift0 ?_)
      repeat fail "w"
      refine rc_strN b2 ?_
      repeat fail "w"
      refine ⟨_, ch_extS (ys := ["after", numT pr]) (by simp) (by simp), rfl, ?_⟩
      rw [if_pos h]
    · refine fs_nx ⟨rfl, ?_⟩
      rw [if_neg h, List.append_nil]
  have hW : ([a, b, numT n] ++ (if 0 < pr then (["after", numT pr] : List Str) else [])).length ≤ 5 := by
    rw [List.length_append]
    split <;> simp
  have hg : gs.length ≤ 1000 := h1.glen
  have hgl : (gs.map nameD).length = gs.length := List.length_map ..
  generalize hW1 : [a, b, numT n] ++ (if 0 < pr then (["after", numT pr] : List Str) else []) = W1 at *
  refine fs_mid ((), W1 ++ (if 0 < gs.length then (["got"] : List Str) ++ gs.map nameT else [])) (fs_if (ft_lift0 ?_)) ?_
  · repeat fail "w"
    refine b_if2 (fun h => ?_) (fun h => ?_)
    · refine fs_seq (fs_bm hq rfl (fa_lift0 ?_))
      repeat fail "w"
      refine ⟨_, ch_appS (z := "got") (by omega), ?_⟩
      refine fs_bm hq rfl (fa_lift0 ?_)
      repeat fail "w"
      refine wp_lcG (γ := Nm) nameD (fun a => .str (nameT a)) nameD_inj ?_
      repeat fail "w"
      refine ⟨gs, by rw [List.map_map]; rfl, by omega, fun c hc => ⟨_, tgt_name (by decide), ?_⟩, ?_⟩
      · have k1 := h1.gots c hc
        have k2 := h3.gots c hc
        repeat fail "w"
        refine ⟨⟨k1, k2⟩, ?_⟩
        repeat fail "w"
        rfl
      · repeat fail "w"
        have e : gs.map (fun a => PyData.str (nameT a)) = (gs.map nameT).map PyData.str := by rw [List.map_map]; rfl
        rw [e]
        refine ⟨_, ch_extS (by rw [List.length_append]; simp; omega) (by rw [List.length_map]; omega), rfl, ?_⟩
        rw [hgl] at h
        rw [if_pos (by omega), List.append_assoc]
    · refine fs_nx ⟨rfl, ?_⟩
      rw [hgl] at h
      rw [if_neg (by omega), List.append_nil]
  have hW2 : (W1 ++ (if 0 < gs.length then (["got"] : List Str) ++ gs.map nameT else [])).length ≤ 1006 := by
    rw [List.length_append]
    split
    · rw [List.length_append, List.length_map]
      simp
      omega
    · simp
      omega
  have hS : shownL ⟨(a, b, n), pr, gs, tm, de⟩ = ((W1 ++ (if 0 < gs.length then (["got"] : List Str) ++ gs.map nameT else [])) ++ (["at", numT tm ++ ":"] : List Str)) ++ deedT de := by
    unfold shownL
    rw [← hW1]
  rw [hS] at h4 ⊢
  generalize W1 ++ (if 0 < gs.length then (["got"] : List Str) ++ gs.map nameT else []) = W2 at *
  have k1 : (numT tm).length ≤ 500 := (numT_Sm b3).len
  have kd : Str.length ":" = 1 := by decide +kernel
  have kb : Str.length " " ≤ 1 := by decide +kernel
  have hde : de.Ok := h1.deed
  have hdB : deedB de = true := by
    have h2' : (nameB _ && (_ && (_ && (_ && deedB de)))) = true := h2
    simp only [Bool.and_eq_true] at h2'
    exact h2'.2.2.2.2
  have hdl : (deedT de).length ≤ 4 := deedT_len hde hdB
  refine fs_ret (wf_peek gf_no hq 8 rfl (wf_lift0 ?_))
  repeat fail "w"
  refine rc_strN b3 ?_
  repeat fail "w"
  refine rd_catS (by simp only [len_app, sizeLine_eq]; omega) ?_
  repeat fail "w"
  refine rd_catW W2 ["at", numT tm ++ ":"] rfl rfl (by simp; omega) ?_
  repeat fail "w"
  refine ⟨⟨hde, hdB⟩, ?_⟩
  repeat fail "w"
  refine rd_catW _ (deedT de) rfl rfl (by rw [List.length_append]; simp; omega) ?_
  repeat fail "w"
  refine rt_join (join_room h4 (by rw [List.length_append, List.length_append]; simp; omega) kb) ?_
  exact ⟨rfl, .inr ⟨_, rfl, rfl⟩⟩
end
end K84

/-! part K84D24 -/
set_option maxHeartbeats 1000000
/-! K84D24: the letter that words write, as the law has it. -/
namespace K84
local macro_rules | `(tactic| fail "i") => `(tactic| (first | with_reducible refine wp_neg ?_ | with_reducible refine wp_pick ?_ | with_reducible refine wp_draw ?_ | with_reducible refine ws_seq ?_ | with_reducible refine ws_nx ?_ | with_reducible refine ws_set ?_ | with_reducible refine ws_ret ?_ | with_reducible refine ws_drop ?_ | with_reducible refine wt_or ?_ | with_reducible refine wt_and ?_ | with_reducible refine wt_not ?_ | with_reducible refine wt_B ?_ | with_reducible refine wt_test ?_ | with_reducible refine wp_chain ?_ | with_reducible refine wp_andV ?_ | with_reducible refine wp_orV ?_ | with_reducible refine wp_notV ?_ | with_reducible refine wp_if ?_ | with_reducible refine wp_int ?_ | with_reducible refine wp_var (by with_unfolding_all rfl) ?_ | with_reducible refine wp_str ?_ | with_reducible refine wp_bl ?_ | with_reducible refine wp_non ?_ | with_reducible refine wp_ref ?_ | with_reducible refine wp_op ?_ | with_reducible refine wp_tup' ?_ | with_reducible refine wp_lst' ?_ | with_reducible refine wa_cons ?_ | with_reducible refine wa_nil ?_ | with_reducible refine wp_sl ?_ | with_reducible refine wo_none ?_ | with_reducible refine wo_some ?_ | with_reducible refine wp_isi' (by simp) ?_ | with_reducible refine wp_allIn (by with_unfolding_all rfl) (by assumption) (by with_unfolding_all exact of_decide_eq_true rfl) (by with_unfolding_all rfl) ?_ | with_reducible refine wp_cb ?_ | with_reducible refine wp_m1 ?_ | with_reducible refine rs_T1 ?_ | with_reducible refine rs_T' (by with_unfolding_all rfl) (by with_unfolding_all rfl) ?_ | with_reducible refine wi_list ?_ | with_reducible refine wi_tup ?_ | with_reducible refine wi_str ?_ | with_reducible refine wi_rng1 ?_ | with_reducible refine wi_rng2 ?_ | with_reducible refine wi_zipT ?_ | with_reducible refine wi_zipM ?_ | with_reducible refine wi_enum ?_ | with_reducible refine rd_ib ?_ | with_reducible refine rd_ii ?_ | with_reducible refine rd_inSg ?_ | with_reducible refine rd_mod (by first | assumption | decide) ?_ | with_reducible refine rd_mul (cmul_r (by decide +kernel)) ?_ | with_reducible refine rd_mul (cmul_l (by decide +kernel)) ?_ | with_reducible refine rc_max ?_ | with_reducible refine rc_min ?_ | with_reducible refine rd_eqI ?_ | with_reducible refine rd_neI ?_ | with_reducible refine rd_eqS (by first | assumption | decide +kernel) (by first | assumption | decide +kernel) ?_ | with_reducible refine rd_neS (by first | assumption | decide +kernel) (by first | assumption | decide +kernel) ?_ | with_reducible refine rd_iC (cpow_ok (by with_unfolding_all rfl)) ?_ | with_reducible refine rd_isN' (b := true) (by with_unfolding_all rfl) ?_ | with_reducible refine rd_isN' (b := false) (by with_unfolding_all rfl) ?_ | with_reducible refine rd_notN' (b := true) (by with_unfolding_all rfl) ?_ | with_reducible refine rd_notN' (b := false) (by with_unfolding_all rfl) ?_ | with_reducible refine rc_len (by first | assumption | with_unfolding_all rfl) ?_ | with_reducible refine rd_ixT0 ?_ | with_reducible refine rd_ixL0 ?_ | with_reducible refine rd_ixT (by first | assumption | with_unfolding_all rfl) ?_ | with_reducible refine rd_ixL (by first | assumption | with_unfolding_all rfl) ?_ | with_reducible refine wp_callF ?_ | with_reducible refine rc_tupL ?_ | with_reducible refine rc_strS ?_ | with_reducible refine rc_all ?_ | with_reducible refine L2.iteT ?_ | with_reducible refine ite_dT (by with_unfolding_all exact of_decide_eq_true rfl) ?_ | with_reducible refine ite_dF (by with_unfolding_all exact of_decide_eq_false rfl) ?_ | with_reducible refine ite_ndT (by with_unfolding_all exact of_decide_eq_true rfl) ?_ | with_reducible refine ite_ndF (by with_unfolding_all exact of_decide_eq_false rfl) ?_ | with_reducible refine L2.iteF ?_ | with_reducible refine ite_nt ?_ | with_reducible refine ite_nf ?_ | refine ⟨_, true, rfl, rfl, ?_⟩ | refine ⟨_, false, rfl, rfl, ?_⟩ | with_reducible refine ⟨_, rfl, ?_⟩ | with_reducible refine ⟨_, _, rfl, ?_⟩ | with_reducible refine And.intro (by first | assumption | exact trivial | with_unfolding_all exact of_decide_eq_true rfl) ?_ | with_reducible refine And.intro Mode.Sub.no ?_ | with_reducible refine ⟨_, (by with_unfolding_all rfl), (by with_unfolding_all exact of_decide_eq_true rfl), ?_⟩))
local macro_rules | `(tactic| fail "w") => `(tactic| (first | with_reducible refine wp_neg ?_ | with_reducible refine wp_pick ?_ | with_reducible refine wp_draw ?_ | with_reducible refine ws_seq ?_ | with_reducible refine ws_nx ?_ | with_reducible refine ws_set ?_ | with_reducible refine ws_ret ?_ | with_reducible refine ws_if ?_ | with_reducible refine ws_drop ?_ | with_reducible refine wt_or ?_ | with_reducible refine wt_and ?_ | with_reducible refine wt_not ?_ | with_reducible refine wt_B ?_ | with_reducible refine wt_test ?_ | with_reducible refine wp_chain ?_ | with_reducible refine wp_andV ?_ | with_reducible refine wp_orV ?_ | with_reducible refine wp_notV ?_ | with_reducible refine wp_if ?_ | with_reducible refine wp_int ?_ | with_reducible refine wp_var (by with_unfolding_all rfl) ?_ | with_reducible refine wp_str ?_ | with_reducible refine wp_bl ?_ | with_reducible refine wp_non ?_ | with_reducible refine wp_ref ?_ | with_reducible refine wp_op ?_ | with_reducible refine wp_tup' ?_ | with_reducible refine wp_lst' ?_ | with_reducible refine wa_cons ?_ | with_reducible refine wa_nil ?_ | with_reducible refine wp_sl ?_ | with_reducible refine wo_none ?_ | with_reducible refine wo_some ?_ | with_reducible refine wp_isi' (by simp) ?_ | with_reducible refine wp_allIn (by with_unfolding_all rfl) (by assumption) (by with_unfolding_all exact of_decide_eq_true rfl) (by with_unfolding_all rfl) ?_ | with_reducible refine wp_cb ?_ | with_reducible refine wp_m1 ?_ | with_reducible refine rs_T1 ?_ | with_reducible refine rs_T' (by with_unfolding_all rfl) (by with_unfolding_all rfl) ?_ | with_reducible refine wi_list ?_ | with_reducible refine wi_tup ?_ | with_reducible refine wi_str ?_ | with_reducible refine wi_rng1 ?_ | with_reducible refine wi_rng2 ?_ | with_reducible refine wi_zipT ?_ | with_reducible refine wi_zipM ?_ | with_reducible refine wi_enum ?_ | with_reducible refine rd_ib ?_ | with_reducible refine rd_ii ?_ | with_reducible refine rd_inSg ?_ | with_reducible refine rd_mod (by first | assumption | decide) ?_ | with_reducible refine rd_mul (cmul_r (by decide +kernel)) ?_ | with_reducible refine rd_mul (cmul_l (by decide +kernel)) ?_ | with_reducible refine rc_max ?_ | with_reducible refine rc_min ?_ | with_reducible refine rd_eqI ?_ | with_reducible refine rd_neI ?_ | with_reducible refine rd_eqS (by first | assumption | decide +kernel) (by first | assumption | decide +kernel) ?_ | with_reducible refine rd_neS (by first | assumption | decide +kernel) (by first | assumption | decide +kernel) ?_ | with_reducible refine rd_iC (cpow_ok (by with_unfolding_all rfl)) ?_ | with_reducible refine rd_isN' (b := true) (by with_unfolding_all rfl) ?_ | with_reducible refine rd_isN' (b := false) (by with_unfolding_all rfl) ?_ | with_reducible refine rd_notN' (b := true) (by with_unfolding_all rfl) ?_ | with_reducible refine rd_notN' (b := false) (by with_unfolding_all rfl) ?_ | with_reducible refine rc_len (by first | assumption | with_unfolding_all rfl) ?_ | with_reducible refine rd_ixT0 ?_ | with_reducible refine rd_ixL0 ?_ | with_reducible refine rd_ixT (by first | assumption | with_unfolding_all rfl) ?_ | with_reducible refine rd_ixL (by first | assumption | with_unfolding_all rfl) ?_ | with_reducible refine wp_callF ?_ | with_reducible refine rc_tupL ?_ | with_reducible refine rc_strS ?_ | with_reducible refine rc_all ?_ | with_reducible refine L2.iteT ?_ | with_reducible refine ite_dT (by with_unfolding_all exact of_decide_eq_true rfl) ?_ | with_reducible refine ite_dF (by with_unfolding_all exact of_decide_eq_false rfl) ?_ | with_reducible refine ite_ndT (by with_unfolding_all exact of_decide_eq_true rfl) ?_ | with_reducible refine ite_ndF (by with_unfolding_all exact of_decide_eq_false rfl) ?_ | with_reducible refine L2.iteF ?_ | with_reducible refine ite_nt ?_ | with_reducible refine ite_nf ?_ | refine ⟨_, true, rfl, rfl, ?_⟩ | refine ⟨_, false, rfl, rfl, ?_⟩ | with_reducible refine ⟨_, rfl, ?_⟩ | with_reducible refine ⟨_, _, rfl, ?_⟩ | with_reducible refine And.intro (by first | assumption | exact trivial | with_unfolding_all exact of_decide_eq_true rfl) ?_ | with_reducible refine And.intro Mode.Sub.no ?_ | with_reducible refine ⟨_, (by with_unfolding_all rfl), (by with_unfolding_all exact of_decide_eq_true rfl), ?_⟩))
open PySem PySem.Spec PyProof.Rows L2
def colonB (z : Str) : Bool := decide (cutS z (some (-1)) none = ":")
def pE (ws : List Str) (i : Nat) : Bool := colonB (ws.getD (4 + i) "") && decide (ws.getD (3 + i) "" = "at")
def endsM (ws : List Str) : List Nat := (List.range (ws.length - 4)).filter (pE ws)
def isAft (ws : List Str) (i : Nat) : Bool := decide (((ws.drop 3).take i).take 1 = (["after"] : List Str))
def midM (ws : List Str) (i : Nat) : List Str := if isAft ws i = true then ((ws.drop 3).take i).drop 2 else (ws.drop 3).take i
def prevM (ws : List Str) (i : Nat) : Option Int := if isAft ws i = true then wholeB (((ws.drop 3).take i ++ ([""] : List Str)).getD 1 "") 1 (10 ^ 60) else some 0
def gotsM (ms : List Str) : Option (List Nm) := if ms = [] then some [] else if ms.headD "" = "got" ∧ ((ms.drop 1).length ≠ 0 ∧ (ms.drop 1).length ≤ 30) then (ms.drop 1).mapM (fun z => namedB (Txt.split z ".")) else none
def dueM (ws : List Str) : Option Letter := match endsM ws, namedB (ws.take 3) with
  | i :: _, some g => (gotsM (midM ws i)).bind fun gs => (prevM ws i).bind fun pv => (wholeB (cutS (ws.getD (4 + i) "") none (some (-1))) 0 (10 ^ 60)).bind fun tm => (doneM (ws.drop (5 + i))).bind fun de =>
      if (gs.all fun x => !decide ([x.1, x.2.1] = [g.1, g.2.1])) = true ∧ adjB gs = true then some ⟨g, pv, gs, tm, de⟩ else none
  | _, _ => none
def optL : Option Letter → PyData
  | none => .none
  | some l => l.D
section
variable {P : Program} {w : World} {K : PySem.W.Frag} {mg : Str → Option Value} {base : Heap}
theorem getD_at {ws : List Str} {i : Nat} (h : i < ws.length) : ws[i]? = some (ws.getD i "") := by
  rw [List.getD_eq_getElem?_getD, List.getElem?_eq_getElem h]
  rfl
theorem cut_ok {z : Str} {lo hi : Option Int} (h : okS z = true) : okS (cutS z lo hi) = true := (okS_iff _).mpr fun c hc => (okS_iff z).mp h c (List.mem_of_mem_drop (List.mem_of_mem_take (show c ∈ (TL.tl z |>.drop (HT.sIx z.length 0 lo)).take (HT.sIx z.length z.length hi - HT.sIx z.length 0 lo) from by
  have e : TL.tl (cutS z lo hi) = ((TL.tl z).drop (HT.sIx z.length 0 lo)).take (HT.sIx z.length z.length hi - HT.sIx z.length 0 lo) := by
    show ((z.cps.toList.drop (HT.sIx z.length 0 lo)).take (HT.sIx z.length z.length hi - HT.sIx z.length 0 lo)).toArray.toList = _
    rw [List.toList_toArray]
  rw [← e]
  exact hc)))
theorem rd_eqNil {Γ : Ctx} {k : Dv → Prop} {xs : List PyData} (h : SeqAt.shaped (.list xs) = true) (q : k (.d (.bool (decide (xs.length = 0))))) : RD Γ (rEqD Γ.K) (.d (.list xs)) (.d (.list [])) k :=
  rd_eq h rfl (by
    show k (.d (.bool (PyData.eqvAll xs [])))
    rw [eqvAll_nil]
    exact q)
theorem rd_neNil {Γ : Ctx} {k : Dv → Prop} {xs : List PyData} (h : SeqAt.shaped (.list xs) = true) (q : k (.d (.bool (!decide (xs.length = 0))))) : RD Γ (rNeD Γ.K) (.d (.list xs)) (.d (.list [])) k :=
  rd_ne h rfl (by
    show k (.d (.bool (!PyData.eqvAll xs [])))
    rw [eqvAll_nil]
    exact q)
theorem ws_midT {Γ : Ctx} {ss : Sd} {t u : TS} {e : EndD} (R : Sd → Prop) (h1 : WpS Γ t ss ⟨R, e.rt, e.x⟩) (h2 : ∀ s1, R s1 → WpS Γ u s1 e) : WpS Γ (tSeq t u) ss e := ws_seq (h1.imp (fun s hs => h2 s hs) (fun _ z => z) fun z => z)
theorem gl_of (f : Str → Option Nm) : ∀ l : List Str, (∃ gl, l.mapM f = some gl ∧ (l.map fun z => optN (f z)) = gl.map nameD ∧ (l.map fun z => optN (f z)).any isNo = false) ∨ (l.mapM f = none ∧ (l.map fun z => optN (f z)).any isNo = true)
  | [] => .inl ⟨[], rfl, rfl, rfl⟩
  | z :: l => by
    rw [List.mapM_cons, List.map_cons, List.any_cons]
    cases hz : f z with
    | none => exact .inr ⟨rfl, rfl⟩
    | some p =>
      rcases gl_of f l with ⟨gl, h1, h2, h3⟩ | ⟨h1, h2⟩
      · refine .inl ⟨p :: gl, ?_, ?_, ?_⟩
        · rw [h1]
          rfl
        · rw [h2]
          rfl
        · rw [h3]
          rfl
      · refine .inr ⟨?_, ?_⟩
        · rw [h1]
          rfl
        · rw [h2]
          rfl
theorem Sm_cut {z : Str} {lo hi : Option Int} (h : Sm z) : Sm (cutS z lo hi) := by
  have e : TL.tl (cutS z lo hi) = ((TL.tl z).drop (HT.sIx z.length 0 lo)).take (HT.sIx z.length z.length hi - HT.sIx z.length 0 lo) := by
    show ((z.cps.toList.drop (HT.sIx z.length 0 lo)).take (HT.sIx z.length z.length hi - HT.sIx z.length 0 lo)).toArray.toList = _
    rw [List.toList_toArray]
  refine h.sub ?_ fun c hc => ?_
  · rw [e, List.length_take, List.length_drop]
    omega
  · rw [e] at hc
    exact List.mem_of_mem_drop (List.mem_of_mem_take hc)
theorem mapM_mem {α β : Type} {f : α → Option β} : ∀ {l : List α} {ys : List β}, l.mapM f = some ys → ∀ y ∈ ys, ∃ x ∈ l, f x = some y
  | [], ys, h, y, hy => by
    cases h
    cases hy
  | a :: l, ys, h, y, hy => by
    rw [List.mapM_cons] at h
    cases e : f a with
    | none =>
      rw [e] at h
      cases h
    | some b =>
      rw [e] at h
      cases e2 : l.mapM f with
      | none =>
        rw [e2] at h
        cases h
      | some zs =>
        rw [e2] at h
        cases h
        rcases List.mem_cons.mp hy with hy | hy
        · exact ⟨a, List.mem_cons_self, by rw [e, hy]⟩
        · obtain ⟨x, hx, ex⟩ := mapM_mem e2 y hy
          exact ⟨x, List.mem_cons_of_mem _ hx, ex⟩
theorem gotsM_ok {ms : List Str} {gl : List Nm} (h : ∀ z ∈ ms, Sm z) (e : gotsM ms = some gl) : (∀ x ∈ gl, NmOk x ∧ nameB x = true ∧ x.2.2 ≤ 10 ^ 60) ∧ gl.length ≤ 30 := by
  unfold gotsM at e
  split at e
  · cases e
    exact ⟨fun x hx => (nomatch hx), by decide⟩
  · split at e
    · rename_i q
      refine ⟨fun x hx => ?_, ?_⟩
      · obtain ⟨z, hz, ez⟩ := mapM_mem e x hx
        exact namedB_ok (fun u hu => split_Sm dot_tl (by decide) (h z (List.mem_of_mem_drop hz)) hu) ez
      · rw [paired_len e]
        exact q.2.2
    · cases e
theorem Sm_nil : Sm "" := ⟨by decide +kernel, by decide +kernel⟩
abbrev N_law_due : List Str := ["_law_words", "_law_ends", "_law_name_here", "_law_at", "_law_middle", "_law_prev", "_law_gots", "_law_time", "_law_deed_here", "_law_k", "_law_word_here", "_law_got"]
abbrev P_law_due : List Str := ["_law_words"]
theorem sc_law_due : FnScope N_law_due P_law_due (defScope s_law_due) := ⟨rfl, rfl, rfl, by decide +kernel, rfl, by decide +kernel, by decide +kernel⟩
abbrev sp_law_due (K : PySem.W.Frag) : Sp := spD K (CN K) (fun _ => Mode.no) (fun zs : List Str => [.d (.list (zs.map PyData.str))]) (fun zs => (∀ z ∈ zs, Sm z) ∧ zs.length ≤ 500) (fun zs y => y = optL (dueM zs)) (fun _ => False)
theorem ok_law_due (W : Wd w K mg) : FnI P w K mg base 3 (He.ga K "_law_due") (sp_law_due K) := by
  obtain ⟨fd, F⟩ := W.fd_law_due
  refine FnI.of F sc_law_due (fun _ _ _ _ _ _ us hl => match us, hl with | [_], _ => rfl) (fun _ _ => rfl) fun cdv A outer s H E hr ws ⟨hp, hlen⟩ => ⟨_, (pss_cons (ps_setLc (i := 1) (own := [("_law_k", 9)]) (g := gName 9) rfl sc_law_due.nd rfl rfl (sw_true rfl rfl rfl (by decide +kernel)) (pi_range2 rfl W.f_range (pa_cons pe_int (pa_cons (pe_callB (callK rLenD K call_lenD2) rfl W.f_len PyProof.Rows.Boot.«len» (pa_cons (pv 0) pa_nil)) pa_nil))) (blkOk_by (own := [("_law_k", 9)]) (N := N_law_due) (sc := defScope s_law_due) (by decide +kernel)) (fun _ _ _ _ _ => (pg_name (i := 9) sc_law_due.nd rfl (Or.inl rfl))) (fun _ _ _ _ _ => pts_one (PW.pt (pw_and (pt_cmpR (opK rEqD K (op_eqD hr.units)) (pe_slice sl_str (pe_ix (ixK rIxL K ix_list) (pv 0) (pv 9) (fun _ _ => rfl)) (po_some (pe_un un_neg pe_int)) po_none) pe_str (nomark _)) (pw_and1 (pt_cmpR (opK rEqD K (op_eqD hr.units)) (pe_ix (ixK rIxL K ix_list) (pv 0) (pe_op op_sub (pv 9) pe_int) (fun _ _ => rfl)) pe_str (nomark _)))))) (fun _ _ _ _ _ => (pv 9)))
      (pss_cons (ps_set (i := 2) sc_law_due.nd rfl (Or.inr rfl) (pe_callI (ok_law_named W) hr W.g_law_named passL (pa_cons (pe_slice (slK rSlL K sl_list) (pv 0) po_none (po_some pe_int)) pa_nil)))
      (pss_cons (ps_if (PW.pt (pw_or (pt_cmpR (opK rEqD K (op_eqD hr.units)) (pv 1) (pe_lst pa_nil) (nomark _)) (pw_or1 (pt_cmpR op_isNn (pv 2) pe_non (nomark _))))) (pss_one (ps_ret pe_non)) pss_nil)
      (pss_cons (ps_set (i := 3) sc_law_due.nd rfl (Or.inl rfl) (pe_ix (ixK rIxL K ix_list) (pv 1) pe_int (fun _ _ => rfl)))
      (pss_cons (ps_set (i := 4) sc_law_due.nd rfl (Or.inl rfl) (pe_slice (slK rSlL K sl_list) (pv 0) (po_some pe_int) (po_some (pe_op op_sub (pv 3) pe_int))))
      (pss_cons (ps_set (i := 5) sc_law_due.nd rfl (Or.inl rfl) pe_int)
      (pss_cons (ps_if (pt_cmpR (opK rEqD K (op_eqD hr.units)) (pe_slice (slK rSlL K sl_list) (pv 4) po_none (po_some pe_int)) (pe_lst (pa_cons pe_str pa_nil)) (nomark _)) (pss_cons (ps_set (i := 5) sc_law_due.nd rfl (Or.inl rfl) (pe_callI (ok_law_whole W) hr W.g_law_whole passL (pa_cons (pe_ix (ixK rIxL K ix_list) (pe_op op_cat (pv 4) (pe_lst (pa_cons pe_str pa_nil))) pe_int (fun _ _ => rfl)) (pa_cons pe_int (pa_cons (pe_op op_pow pe_int pe_int) pa_nil)))))
      (pss_one (ps_set (i := 4) sc_law_due.nd rfl (Or.inl rfl) (pe_slice (slK rSlL K sl_list) (pv 4) (po_some pe_int) po_none)))) pss_nil)
      (pss_cons (ps_set (i := 6) sc_law_due.nd rfl (Or.inr rfl) (pe_lst pa_nil))
      (pss_cons (ps_if (pt_cmpR (opK rNeD K (op_neD hr.units)) (pv 4) (pe_lst pa_nil) (nomark _)) (pss_cons (ps_set (i := 6) sc_law_due.nd rfl (Or.inr rfl) (pe_lc (own := [("_law_word_here", 10)]) (g := gName 10) (tt := tYes) rfl sc_law_due.nd (pi_list (pe_slice (slK rSlL K sl_list) (pv 4) (po_some pe_int) po_none)) (blkOk_by (own := [("_law_word_here", 10)]) (N := N_law_due) (sc := defScope s_law_due) (by decide +kernel)) (fun _ _ _ _ _ => (pg_name (i := 10) sc_law_due.nd rfl (Or.inl rfl))) (fun _ _ _ _ _ => pts_nil) (fun _ _ _ _ _ => (pe_callI (ok_law_named W) hr W.g_law_named passL (pa_cons (pe_m1 PySem.F.slot_str_split PySem.F.type_str_split mt_splitD (pv 10) pe_str rfl) pa_nil)))))
      (pss_one (ps_if (PW.pt (pw_or (pt_cmpR (opK rNeD K (op_neD hr.units)) (pe_ix (ixK rIxL K ix_list) (pv 4) pe_int (fun _ _ => rfl)) pe_str (nomark _)) (pw_or (pt_cmpR (opK rEqD K (op_eqD hr.units)) (pv 6) (pe_lst pa_nil) (nomark _)) (pw_or (pt_cmpR op_gt (pe_callB (callK rLenD K call_lenD2) rfl W.f_len PyProof.Rows.Boot.«len» (pa_cons (pv 6) pa_nil)) pe_int (nomark _)) (pw_or1 (pt_cmpR (opK rInD K (op_inD (u65 hr))) pe_non (pv 6) (by rfl))))))) (pss_one (ps_ret pe_non)) pss_nil))) pss_nil)
      (pss_cons (ps_set (i := 7) sc_law_due.nd rfl (Or.inl rfl) (pe_callI (ok_law_whole W) hr W.g_law_whole passL (pa_cons (pe_slice sl_str (pe_ix (ixK rIxL K ix_list) (pv 0) (pv 3) (fun _ _ => rfl)) po_none (po_some (pe_un un_neg pe_int))) (pa_cons pe_int (pa_cons (pe_op op_pow pe_int pe_int) pa_nil)))))
      (pss_cons (ps_set (i := 8) sc_law_due.nd rfl (Or.inl rfl) (pe_callI (ok_law_done W) hr W.g_law_done passL (pa_cons (pe_slice (slK rSlL K sl_list) (pv 0) (po_some (pe_op op_add (pv 3) pe_int)) po_none) pa_nil)))
      (pss_cons (ps_if (PW.pt (pw_or (pt_cmpR op_isNn (pv 5) pe_non (nomark _)) (pw_or (pt_cmpR op_isNn (pv 7) pe_non (nomark _)) (pw_or (pt_cmpR op_isNn (pv 8) pe_non (nomark _)) (pw_or1 (pt_cmpR (opK rNeD K (op_neD hr.units)) (pe_lc (own := [("_law_got", 11)]) (g := gName 11) rfl sc_law_due.nd (pi_list (pv 6)) (blkOk_by (own := [("_law_got", 11)]) (N := N_law_due) (sc := defScope s_law_due) (by decide +kernel)) (fun _ _ _ _ _ => (pg_name (i := 11) sc_law_due.nd rfl (Or.inl rfl))) (fun _ _ _ _ _ => pts_one (pt_cmpR (opK rEqD K (op_eqD hr.units)) (pe_slice (slK rSlT K sl_tup) (pv 11) po_none (po_some pe_int)) (pe_slice (slK rSlT K sl_tup) (pv 2) po_none (po_some pe_int)) (nomark _))) (fun _ _ _ _ _ => (pv 11))) (pe_lst pa_nil) (nomark _))))))) (pss_one (ps_ret pe_non)) pss_nil)
      (pss_cons (ps_if (pt_not (pt_val (pe_callB (callK rAll K (cr_all rfl)) rfl W.f_all PyProof.Rows.Boot.«all» (pa_cons (pe_lc (own := [("_law_k", 9)]) (g := gName 9) (tt := tYes) rfl sc_law_due.nd (pi_range1 rfl W.f_range (pa_cons (pe_op op_sub (pe_callB (callK rLenD K call_lenD2) rfl W.f_len PyProof.Rows.Boot.«len» (pa_cons (pv 6) pa_nil)) pe_int) pa_nil)) (blkOk_by (own := [("_law_k", 9)]) (N := N_law_due) (sc := defScope s_law_due) (by decide +kernel)) (fun _ _ _ _ _ => (pg_name (i := 9) sc_law_due.nd rfl (Or.inl rfl))) (fun _ _ _ _ _ => pts_nil) (fun _ _ _ _ _ => (pe_cmpR (opK rLtD K (op_ltD hr.units)) (pe_ix (ixK rIxL K ix_list) (pv 6) (pv 9) (fun _ _ => rfl)) (pe_ix (ixK rIxL K ix_list) (pv 6) (pe_op op_add (pv 9) pe_int) (fun _ _ => rfl)) (nomark _)))) pa_nil)))) (pss_one (ps_ret pe_non)) pss_nil)
      (pss_one (ps_ret (pe_op op_catT (pv 2) (pe_tup (pa_cons (pv 5) (pa_cons (pe_callTy (callK rTupL K call_tupL) rfl W.f_tuple PyProof.Rows.Boot.«tuple» (pa_cons (pv 6) pa_nil)) (pa_cons (pv 7) (pa_cons (pv 8) pa_nil))))))))))))))))))))), ?_⟩
  have hp : ∀ z ∈ ws, Sm z := hp
  have hlen : ws.length ≤ 500 := hlen
  have hml : (ws.map PyData.str).length = ws.length := List.length_map ..
  have hget : ∀ i, i < ws.length → Sm (ws.getD i "") := fun i hi => hp _ (List.mem_of_getElem? (getD_at hi))
  try dsimp only [cxOf, Cx.blk, Cx.blkE]
  repeat fail "i"
  refine wp_lcIf (γ := Nat) (fun i => .int (4 + (i : Int))) (fun i => .int (4 + (i : Int))) (pE ws) (fun a b e => by have := PyData.int.inj e; omega) ?_
  iterate 10 fail "w"
  refine ⟨4, ((ws.map PyData.str).length : Int), rfl, by rw [hml]; omega, ?_⟩
  have en : (((ws.map PyData.str).length : Int) - 4).toNat = ws.length - 4 := by rw [hml]; omega
  rw [en]
  refine ⟨List.range (ws.length - 4), by unfold rangeD; rw [List.map_map]; rfl, by rw [List.length_range]; omega, fun i hi => ⟨_, tgt_name (by decide), ?_⟩, ?_⟩
  · have hi' : 4 + i < ws.length := by have := List.mem_range.mp hi; omega
    have s4 := hget (4 + i) hi'
    have s3 := hget (3 + i) (by omega)
    repeat fail "i"
    have e1 : (4 + (i : Int)) = ((4 + i : Nat) : Int) := by omega
    rw [e1]
    refine rd_ixL (atI_map (getD_at hi')) ?_
    repeat fail "i"
    refine rs_S (by have := s4.len; rw [sizeLine_eq]; omega) ?_
    repeat fail "i"
    refine rd_eqS (cut_ok s4.ok) (by decide +kernel) ?_
    repeat fail "i"
    refine b_if2 (fun h1 => ?_) (fun h1 => ?_)
    · repeat fail "i"
      have e2 : ((4 + i : Nat) : Int) - 1 = ((3 + i : Nat) : Int) := by omega
      rw [e2]
      refine rd_ixL (atI_map (getD_at (by omega))) ?_
      repeat fail "i"
      refine rd_eqS s3.ok (by decide +kernel) ?_
      repeat fail "i"
      refine ⟨?_, fun _ => ?_⟩
      · unfold pE colonB
        rw [decide_eq_true h1]
        rfl
      · repeat fail "i"
        rfl
    · refine ⟨?_, fun z => nomatch z⟩
      unfold pE colonB
      rw [decide_eq_false h1]
      rfl
  have eE : (List.range (ws.length - 4)).filter (pE ws) = endsM ws := rfl
  rw [eE]
  repeat fail "i"
  refine rs_takeM 3 ?_
  repeat fail "i"
  refine ⟨fun z hz => hp z (List.mem_of_mem_take hz), ?_⟩
  repeat fail "i"
  refine ws_ifB (endsM ws = [] ∨ namedB (ws.take 3) = none) (¬ (endsM ws = [] ∨ namedB (ws.take 3) = none)) ?_ (fun h1 => ?_) (fun h1 => ?_)
  · repeat fail "i"
    refine rd_eqNil (Lay.sh (n := 1) (.lst fun y hy => by
      obtain ⟨i, _, rfl⟩ := List.mem_map.mp hy
      exact .int)) ?_
    repeat fail "i"
    rw [List.length_map]
    refine b_if2 (fun h1 => ?_) (fun h1 => ?_)
    · exact .yes (.inl (List.eq_nil_of_length_eq_zero h1))
    · have h1' : endsM ws ≠ [] := fun z => h1 (by rw [z]; rfl)
      cases hn : namedB (ws.take 3) with
      | none =>
        repeat fail "i"
        exact .yes (.inr rfl)
      | some g =>
        repeat fail "i"
        exact .no fun q => q.elim h1' fun z => by cases z
  · repeat fail "i"
    show _ = optL (dueM ws)
    unfold dueM
    rcases h1 with h1 | h1
    · rw [h1]
      rfl
    · rw [h1]
      cases endsM ws <;> rfl
  obtain ⟨i, es, he⟩ : ∃ i es, endsM ws = i :: es := by
    cases e : endsM ws with
    | nil => exact absurd (.inl e) h1
    | cons i es => exact ⟨i, es, rfl⟩
  obtain ⟨g, hg⟩ : ∃ g, namedB (ws.take 3) = some g := Option.ne_none_iff_exists'.mp fun z => h1 (.inr z)
  have e0 : dueM ws = (gotsM (midM ws i)).bind fun gs => (prevM ws i).bind fun pv => (wholeB (cutS (ws.getD (4 + i) "") none (some (-1))) 0 (10 ^ 60)).bind fun tm => (doneM (ws.drop (5 + i))).bind fun de =>
      if (gs.all fun x => !decide ([x.1, x.2.1] = [g.1, g.2.1])) = true ∧ adjB gs = true then some ⟨g, pv, gs, tm, de⟩ else none := by
    unfold dueM
    rw [he, hg]
  have hie : i ∈ endsM ws := by rw [he]; exact List.mem_cons_self
  have hil : 4 + i < ws.length := by
    have := List.mem_range.mp (List.mem_filter.mp hie).1
    omega
  rw [he, hg]
  repeat fail "i"
  refine rd_ixL (atI_map (n := 0) (x := i) rfl) ?_
  repeat fail "i"
  have e2 : (4 + (i : Int)) - 1 = ((3 + i : Nat) : Int) := by omega
  rw [e2]
  refine rs_midM 3 (3 + i) ?_
  rw [show 3 + i - 3 = i by omega]
  repeat fail "i"
  let S : PyData → List Str → PyData → Sd := fun gsD ms pD => [some (.d (.list (ws.map PyData.str))), some (.d (.list ((i :: es).map fun (i : Nat) => .int (4 + (i : Int))))), some (.d (nameD g)), some (.d (.int (4 + (i : Int)))), some (.d (.list (ms.map PyData.str))), some (.d pD), some (.d gsD), none, none, none, none, none]
  have hmid : ∀ z ∈ (ws.drop 3).take i, Sm z := fun z hz => hp z (List.mem_of_mem_drop (List.mem_of_mem_take hz))
  have hmidl : ((ws.drop 3).take i).length ≤ 500 := by rw [List.length_take, List.length_drop]; omega
  refine ws_midR (fun s1 => s1 = (S .none (midM ws i) (optI (prevM ws i))).set 6 none) (ws_ifB (isAft ws i = true) (isAft ws i = false) ?_ (fun h2 => ?_) (fun h2 => ws_nx ?_)) ?_
  · repeat fail "i"
    refine rs_takeM 1 ?_
    repeat fail "i"
    refine rd_eqLW (((ws.drop 3).take i).take 1) ["after"] rfl rfl (fun z hz => (hmid z (List.mem_of_mem_take hz)).ok) (by decide +kernel) ?_
    repeat fail "i"
    exact .dec (fun h => decide_eq_true h) fun h => decide_eq_false h
  · have hm0 : 1 ≤ ((ws.drop 3).take i).length := by
      have := of_decide_eq_true h2
      cases hq : (ws.drop 3).take i with
      | nil =>
        rw [hq] at this
        cases this
      | cons a r => simp
    repeat fail "i"
    refine rd_catW ((ws.drop 3).take i) [""] rfl rfl (by simp; omega) ?_
    repeat fail "i"
    have h1l : 1 < ((ws.drop 3).take i ++ ([""] : List Str)).length := by
      rw [List.length_append, List.length_singleton]
      omega
    refine rd_ixL (atI_map (n := 1) (getD_at h1l)) ?_
    repeat fail "i"
    refine ⟨(((ws.drop 3).take i ++ ([""] : List Str)).getD 1 "", 1, 10 ^ 60), rfl, ?_, ?_⟩
    · rcases List.mem_append.mp (List.mem_of_getElem? (getD_at h1l)) with h | h
      · exact hmid _ h
      · rw [List.mem_singleton.mp h]
        exact Sm_nil
    repeat fail "i"
    refine rs_dropM 2 ?_
    repeat fail "i"
    have em : midM ws i = ((ws.drop 3).take i).drop 2 := by unfold midM; rw [if_pos h2]
    have ep : prevM ws i = wholeB (((ws.drop 3).take i ++ ([""] : List Str)).getD 1 "") 1 (10 ^ 60) := by unfold prevM; rw [if_pos h2]
    rw [em, ep]
    rfl
  · have em : midM ws i = (ws.drop 3).take i := by unfold midM; rw [h2]; rfl
    have ep : prevM ws i = some 0 := by unfold prevM; rw [h2]; rfl
    rw [em, ep]
    rfl
  rintro _ rfl
  have hms : ∀ z ∈ midM ws i, Sm z := fun z hz => by
    unfold midM at hz
    split at hz
    · exact hmid z (List.mem_of_mem_drop hz)
    · exact hmid z hz
  have hmsl : (midM ws i).length ≤ 500 := by
    unfold midM
    split
    · rw [List.length_drop]
      omega
    · exact hmidl
  generalize midM ws i = ms at *
  refine ws_nx ?_
  repeat fail "i"
  refine ws_midT (fun s1 => ∃ gl, gotsM ms = some gl ∧ s1 = S (.list (gl.map nameD)) ms (optI (prevM ws i))) (ws_ifB (ms ≠ []) (ms = []) ?_ (fun h3 => ?_) (fun h3 => ws_nx ⟨[], by unfold gotsM; rw [if_pos h3], rfl⟩)) ?_
  · repeat fail "i"
    refine rd_neLW ms [] rfl rfl (fun z hz => (hms z hz).ok) (fun z hz => nomatch hz) ?_
    repeat fail "i"
    exact .ndec id id
  · obtain ⟨m0, mr, rfl⟩ : ∃ m0 mr, ms = m0 :: mr := by
      cases ms with
      | nil => exact absurd rfl h3
      | cons a r => exact ⟨a, r, rfl⟩
    have hmr : ∀ z ∈ mr, Sm z := fun z hz => hms z (List.mem_cons_of_mem _ hz)
    have hmrl : mr.length ≤ 500 := by simp at hmsl; omega
    have eg : gotsM (m0 :: mr) = if m0 = "got" ∧ (mr.length ≠ 0 ∧ mr.length ≤ 30) then mr.mapM (fun z => namedB (Txt.split z ".")) else none := rfl
    refine ws_seq (ws_set (wp_lcG (γ := Str) PyData.str (fun z => optN (namedB (Txt.split z "."))) (fun a b e => PyData.str.inj e) ?_))
    repeat fail "i"
    refine rs_dropM 1 ?_
    repeat fail "i"
    refine ⟨mr, by rw [List.map_map]; rfl, by omega, fun z hz => ⟨_, tgt_name (by decide), ?_⟩, ?_⟩
    · have hzs := hmr z hz
      have hzl := hzs.len
      repeat fail "i"
      refine rt_split (by decide +kernel) (by rw [sizeLine_eq]; omega) ?_
      repeat fail "i"
      refine ⟨fun u hu => split_Sm dot_tl (by decide) hzs hu, ?_⟩
      repeat fail "i"
      rfl
    have hcl : ∀ y ∈ mr.map (fun z => optN (namedB (Txt.split z "."))), CdOk y := fun y hy => by
      obtain ⟨z, hz, rfl⟩ := List.mem_map.mp hy
      exact cdN fun u hu => split_Sm dot_tl (by decide) (hmr z hz) hu
    refine ws_ifB (gotsM (m0 :: mr) = none) (∃ gl, gotsM (m0 :: mr) = some gl ∧ mr.map (fun z => optN (namedB (Txt.split z "."))) = gl.map nameD) ?_ (fun h4 => ?_) (fun h4 => ?_)
    · repeat fail "i"
      refine rd_ixL (atI_map (n := 0) (x := m0) rfl) ?_
      repeat fail "i"
      refine rd_neS (hms m0 List.mem_cons_self).ok (by decide +kernel) ?_
      repeat fail "i"
      refine b_ifn (fun h4 => ?_) (fun h4 => .yes (by rw [eg, if_neg fun q => h4 q.1]))
      repeat fail "i"
      refine rd_eqNil (Lay.sh (n := 2) (.lst fun y hy => (hcl y hy).1)) ?_
      repeat fail "i"
      rw [List.length_map]
      refine b_if2 (fun h5 => .yes (by rw [eg, if_neg fun q => q.2.1 h5])) (fun h5 => ?_)
      repeat fail "i"
      have hll : (mr.map (fun z => optN (namedB (Txt.split z ".")))).length = mr.length := List.length_map ..
      refine b_if2 (fun h6 => .yes (by rw [eg, if_neg fun q => by have := q.2.2; omega])) (fun h6 => ?_)
      repeat fail "i"
      refine rd_inL (by decide +kernel) (Lay.sh (n := 2) (.lst fun y hy => (hcl y hy).1)) ?_
      repeat fail "i"
      rw [any_isNo hcl]
      have eg2 : gotsM (m0 :: mr) = mr.mapM (fun z => namedB (Txt.split z ".")) := by rw [eg, if_pos ⟨h4, h5, by omega⟩]
      rcases gl_of (fun z => namedB (Txt.split z ".")) mr with ⟨gl, a1, a2, a3⟩ | ⟨a1, a2⟩
      · rw [a3]
        exact .no ⟨gl, by rw [eg2]; exact a1, a2⟩
      · rw [a2]
        exact .yes (by rw [eg2]; exact a1)
    · repeat fail "i"
      show _ = optL (dueM ws)
      rw [e0, h4]
      rfl
    · obtain ⟨gl, hgl, hge⟩ := h4
      refine ws_nx ⟨gl, hgl, ?_⟩
      rw [hge]
      rfl
  rintro _ ⟨gl, hgl, rfl⟩
  refine ws_nx ?_
  rw [hgl, Option.bind_some] at e0
  obtain ⟨hgok, hgl30⟩ := gotsM_ok hms hgl
  repeat fail "i"
  have e1 : (4 + (i : Int)) = ((4 + i : Nat) : Int) := by omega
  have s4 := hget (4 + i) hil
  rw [e1]
  refine rd_ixL (atI_map (getD_at hil)) ?_
  repeat fail "i"
  refine rs_S (by have := s4.len; rw [sizeLine_eq]; omega) ?_
  repeat fail "i"
  refine ⟨(cutS (ws.getD (4 + i) "") none (some (-1)), 0, 10 ^ 60), rfl, Sm_cut s4, ?_⟩
  repeat fail "i"
  have e5 : (4 + (i : Int)) + 1 = ((5 + i : Nat) : Int) := by omega
  rw [e5]
  refine rs_dropM (5 + i) ?_
  repeat fail "i"
  refine ⟨⟨fun z hz => hp z (List.mem_of_mem_drop hz), by rw [List.length_drop]; omega⟩, ?_⟩
  repeat fail "i"
  have hgo : NmOk g := (namedB_ok (fun z hz => hp z (List.mem_of_mem_take hz)) hg).1
  have hgl2 : (gl.map nameD).length = gl.length := List.length_map ..
  refine ws_ifB (dueM ws = none) (∃ pv tm de, prevM ws i = some pv ∧ wholeB (cutS (ws.getD (4 + i) "") none (some (-1))) 0 (10 ^ 60) = some tm ∧ doneM (ws.drop (5 + i)) = some de ∧ (gl.all fun x => !decide ([x.1, x.2.1] = [g.1, g.2.1])) = true) ?_ (fun h5 => ?_) (fun h5 => ?_)
  · cases h6 : prevM ws i with
    | none =>
      repeat fail "i"
      exact .yes (by rw [e0, h6]; rfl)
    | some pv =>
      rw [h6, Option.bind_some] at e0
      cases h7 : wholeB (cutS (ws.getD (4 + i) "") none (some (-1))) 0 (10 ^ 60) with
      | none =>
        repeat fail "i"
        exact .yes (by rw [e0, h7]; rfl)
      | some tm =>
        rw [h7, Option.bind_some] at e0
        cases h8 : doneM (ws.drop (5 + i)) with
        | none =>
          repeat fail "i"
          exact .yes (by rw [e0, h8]; rfl)
        | some de =>
          rw [h8, Option.bind_some] at e0
          repeat fail "i"
          refine wp_lcIf (γ := Nm) nameD nameD (fun x => decide ([x.1, x.2.1] = [g.1, g.2.1])) nameD_inj ?_
          repeat fail "i"
          refine ⟨gl, by rw [List.map_map]; rfl, by omega, fun x hx => ⟨_, tgt_name (by decide), ?_⟩, ?_⟩
          · have hxo := (hgok x hx).1
            repeat fail "i"
            refine rd_eqTW [x.1, x.2.1] [g.1, g.2.1] (by with_unfolding_all rfl) (by with_unfolding_all rfl) (fun z hz => ?_) (fun z hz => ?_) ?_
            · simp at hz
              rcases hz with rfl | rfl
              · exact hxo.1.ok
              · exact hxo.2.ok
            · simp at hz
              rcases hz with rfl | rfl
              · exact hgo.1.ok
              · exact hgo.2.ok
            repeat fail "i"
            refine ⟨rfl, fun _ => ?_⟩
            repeat fail "i"
            rfl
          · repeat fail "i"
            refine rd_neNil (Lay.sh (n := 2) (.lst fun y hy => by
              obtain ⟨x, hx, rfl⟩ := List.mem_map.mp hy
              exact .nm (hgok x (List.mem_filter.mp hx).1).1)) ?_
            repeat fail "i"
            rw [List.length_map]
            refine .ndec (fun h9 => ?_) (fun h9 => ⟨pv, tm, de, rfl, rfl, rfl, ?_⟩)
            · rw [e0, if_neg]
              rintro ⟨q, _⟩
              refine h9 ?_
              rw [List.length_eq_zero_iff, List.filter_eq_nil_iff]
              intro x hx
              have := List.all_eq_true.mp q x hx
              intro z
              rw [z] at this
              cases this
            · rw [List.length_eq_zero_iff, List.filter_eq_nil_iff] at h9
              refine List.all_eq_true.mpr fun x hx => ?_
              rw [Bool.eq_false_iff.mpr (h9 x hx)]
              rfl
  · repeat fail "i"
    show _ = optL (dueM ws)
    rw [h5]
    rfl
  obtain ⟨pv, tm, de, h6, h7, h8, h9⟩ := h5
  rw [h6, h7, h8] at e0
  simp only [Option.bind_some] at e0
  rw [h6, h7, h8]
  refine ws_nx ?_
  repeat fail "i"
  refine ws_ifB (adjB gl = false) (adjB gl = true) ?_ (fun h5 => ?_) (fun h5 => ?_)
  · repeat fail "i"
    refine wp_lcG (fun i : Nat => .int (0 + (i : Int))) (fun i => .bool (ltN (gl.getD i ("", "", 0)) (gl.getD (i + 1) ("", "", 0)))) (fun a b e => by have := PyData.int.inj e; omega) ?_
    iterate 12 fail "w"
    have en : (((gl.map nameD).length : Int) - 1).toNat = gl.length - 1 := by rw [hgl2]; omega
    refine ⟨by rw [hgl2]; omega, by rw [hgl2]; omega, ?_⟩
    rw [en]
    refine ⟨List.range (gl.length - 1), by unfold rangeD; rw [List.map_map]; rfl, by rw [List.length_range]; omega, fun j hj => ⟨_, tgt_name (by decide), ?_⟩, ?_⟩
    · have hj' : j + 1 < gl.length := by have := List.mem_range.mp hj; omega
      have ea : gl[j]? = some (gl.getD j ("", "", 0)) := by rw [List.getD_eq_getElem?_getD, List.getElem?_eq_getElem (by omega)]; rfl
      have eb : gl[j + 1]? = some (gl.getD (j + 1) ("", "", 0)) := by rw [List.getD_eq_getElem?_getD, List.getElem?_eq_getElem hj']; rfl
      repeat fail "i"
      have q1 : (0 + (j : Int)) = ((j : Nat) : Int) := by omega
      rw [q1]
      refine rd_ixL (atI_map ea) ?_
      repeat fail "i"
      have q2 : ((j : Nat) : Int) + 1 = ((j + 1 : Nat) : Int) := by omega
      rw [q2]
      refine rd_ixL (atI_map eb) ?_
      repeat fail "i"
      refine rd_lt rfl (fun z => nomatch z) (by show 1 ≤ 64; decide) ?_
      rfl
    · repeat fail "i"
      have e : (List.range (gl.length - 1)).map (fun i => PyData.bool (ltN (gl.getD i ("", "", 0)) (gl.getD (i + 1) ("", "", 0)))) = ((List.range (gl.length - 1)).map fun i => ltN (gl.getD i ("", "", 0)) (gl.getD (i + 1) ("", "", 0))).map PyData.bool := by rw [List.map_map]; rfl
      rw [e]
      repeat fail "i"
      rw [List.all_map]
      have h4 := adj_range gl
      have h4' : (List.range (gl.length - 1)).all (id ∘ fun i => ltN (gl.getD i ("", "", 0)) (gl.getD (i + 1) ("", "", 0))) = adjB gl := h4
      rw [h4']
      exact ⟨fun z => by simpa using z, fun z => by simpa using z⟩
  · repeat fail "i"
    show _ = optL (dueM ws)
    rw [e0, if_neg fun q => by rw [q.2] at h5; cases h5]
    rfl
  refine ws_nx ?_
  repeat fail "i"
  refine rd_catT (fun z => nomatch z) (by rw [sizeLine_eq]; simp) ?_
  refine ⟨_, rfl, ?_⟩
  rw [e0, if_pos ⟨h9, h5⟩]
  rfl
end
end K84

/-! part K84D27 -/
set_option maxHeartbeats 1000000
/-! K84D27: whether a reader reads as is due. -/
namespace K84
local macro_rules | `(tactic| fail "w") => `(tactic| (first | with_reducible refine wp_neg ?_ | with_reducible refine wp_pick ?_ | with_reducible refine wp_draw ?_ | with_reducible refine ws_seq ?_ | with_reducible refine ws_nx ?_ | with_reducible refine ws_set ?_ | with_reducible refine ws_ret ?_ | with_reducible refine ws_if ?_ | with_reducible refine ws_drop ?_ | with_reducible refine wt_or ?_ | with_reducible refine wt_and ?_ | with_reducible refine wt_not ?_ | with_reducible refine wt_B ?_ | with_reducible refine wt_test ?_ | with_reducible refine wp_chain ?_ | with_reducible refine wp_andV ?_ | with_reducible refine wp_orV ?_ | with_reducible refine wp_notV ?_ | with_reducible refine wp_if ?_ | with_reducible refine wp_int ?_ | with_reducible refine wp_var (by with_unfolding_all rfl) ?_ | with_reducible refine wp_str ?_ | with_reducible refine wp_bl ?_ | with_reducible refine wp_non ?_ | with_reducible refine wp_ref ?_ | with_reducible refine wp_op ?_ | with_reducible refine wp_tup' ?_ | with_reducible refine wp_lst' ?_ | with_reducible refine wa_cons ?_ | with_reducible refine wa_nil ?_ | with_reducible refine wp_sl ?_ | with_reducible refine wo_none ?_ | with_reducible refine wo_some ?_ | with_reducible refine wp_isi' (by simp) ?_ | with_reducible refine wp_allIn (by with_unfolding_all rfl) (by assumption) (by with_unfolding_all exact of_decide_eq_true rfl) (by with_unfolding_all rfl) ?_ | with_reducible refine wp_cb ?_ | with_reducible refine wp_m1 ?_ | with_reducible refine rs_T1 ?_ | with_reducible refine rs_T' (by with_unfolding_all rfl) (by with_unfolding_all rfl) ?_ | with_reducible refine wi_list ?_ | with_reducible refine wi_tup ?_ | with_reducible refine wi_str ?_ | with_reducible refine wi_rng1 ?_ | with_reducible refine wi_rng2 ?_ | with_reducible refine wi_zipT ?_ | with_reducible refine wi_zipM ?_ | with_reducible refine wi_enum ?_ | with_reducible refine rd_ib ?_ | with_reducible refine rd_ii ?_ | with_reducible refine rd_inSg ?_ | with_reducible refine rd_mod (by first | assumption | decide) ?_ | with_reducible refine rd_mul (cmul_r (by decide +kernel)) ?_ | with_reducible refine rd_mul (cmul_l (by decide +kernel)) ?_ | with_reducible refine rc_max ?_ | with_reducible refine rc_min ?_ | with_reducible refine rd_eqI ?_ | with_reducible refine rd_neI ?_ | with_reducible refine rd_eqS (by first | assumption | decide +kernel) (by first | assumption | decide +kernel) ?_ | with_reducible refine rd_neS (by first | assumption | decide +kernel) (by first | assumption | decide +kernel) ?_ | with_reducible refine rd_iC (cpow_ok (by with_unfolding_all rfl)) ?_ | with_reducible refine rd_isN' (b := true) (by with_unfolding_all rfl) ?_ | with_reducible refine rd_isN' (b := false) (by with_unfolding_all rfl) ?_ | with_reducible refine rd_notN' (b := true) (by with_unfolding_all rfl) ?_ | with_reducible refine rd_notN' (b := false) (by with_unfolding_all rfl) ?_ | with_reducible refine rc_len (by first | assumption | with_unfolding_all rfl) ?_ | with_reducible refine rd_ixT0 ?_ | with_reducible refine rd_ixL0 ?_ | with_reducible refine rd_ixT (by first | assumption | with_unfolding_all rfl) ?_ | with_reducible refine rd_ixL (by first | assumption | with_unfolding_all rfl) ?_ | with_reducible refine wp_callF ?_ | with_reducible refine rc_tupL ?_ | with_reducible refine rc_strS ?_ | with_reducible refine rc_all ?_ | with_reducible refine L2.iteT ?_ | with_reducible refine ite_dT (by with_unfolding_all exact of_decide_eq_true rfl) ?_ | with_reducible refine ite_dF (by with_unfolding_all exact of_decide_eq_false rfl) ?_ | with_reducible refine ite_ndT (by with_unfolding_all exact of_decide_eq_true rfl) ?_ | with_reducible refine ite_ndF (by with_unfolding_all exact of_decide_eq_false rfl) ?_ | with_reducible refine L2.iteF ?_ | with_reducible refine ite_nt ?_ | with_reducible refine ite_nf ?_ | refine ⟨_, true, rfl, rfl, ?_⟩ | refine ⟨_, false, rfl, rfl, ?_⟩ | with_reducible refine ⟨_, rfl, ?_⟩ | with_reducible refine ⟨_, _, rfl, ?_⟩ | with_reducible refine And.intro (by first | assumption | exact trivial | with_unfolding_all exact of_decide_eq_true rfl) ?_ | with_reducible refine And.intro Mode.Sub.no ?_ | with_reducible refine ⟨_, (by with_unfolding_all rfl), (by with_unfolding_all exact of_decide_eq_true rfl), ?_⟩))
open PySem PySem.Spec PyProof.Rows L2
theorem joinL_mem {S : List Nat} {c : Nat} : ∀ {ps : List (List Nat)}, c ∈ TL.joinL S ps → c ∈ S ∨ ∃ p ∈ ps, c ∈ p
  | [], h => by simp [TL.joinL] at h
  | [p], h => .inr ⟨p, List.mem_singleton_self _, by simpa [TL.joinL] using h⟩
  | p :: q :: r, h => by
    rw [joinL_cons S p (List.cons_ne_nil q r)] at h
    rcases List.mem_append.mp h with h | h
    · rcases List.mem_append.mp h with h | h
      · exact .inr ⟨p, List.mem_cons_self, h⟩
      · exact .inl h
    · rcases joinL_mem h with h | ⟨u, hu, hc⟩
      · exact .inl h
      · exact .inr ⟨u, List.mem_cons_of_mem _ hu, hc⟩
theorem join_ok {ws : List Str} (h : ∀ z ∈ ws, okS z = true) : okS (Txt.join " " ws) = true := (okS_iff _).mpr fun c hc => by
  rw [TL.join_eq, TL.tl_join] at hc
  rcases joinL_mem hc with hc | ⟨p, hp, hc⟩
  · rw [blank_tl] at hc
    have := List.mem_singleton.mp hc
    omega
  · obtain ⟨z, hz, rfl⟩ := List.mem_map.mp hp
    exact (okS_iff z).mp (h z hz) c hc
def optG {δ : Type} (D : δ → PyData) : Option δ → PyData
  | none => .none
  | some d => D d
abbrev SD4 : PyData → Prop := SDs (SDs (SDs (SDs fun _ => False)))
/-- what is due -/
def Due {δ : Type} (D : δ → PyData) (A2 : δ → Prop) (T : δ → Str) (Pm : Str → PyData → Prop) (Xm : Str → Prop) (z : Str) (ws : List Str) : Option δ → Prop
  | none => ∀ y, ¬ Pm z y
  | some d => ¬ Xm z ∧ (∀ y, Pm z y → y = D d) ∧ SD4 (D d) ∧ A2 d ∧ T d = Txt.join " " ws
section
variable {P : Program} {w : World} {K : PySem.W.Frag} {mg : Str → Option Value} {base : Heap}
abbrev N_law_right : List Str := ["_law_gone", "_law_shown", "_law_text_here", "_law_words", "_law_due_here", "_law_word_here", "_law_found"]
abbrev P_law_right : List Str := ["_law_gone", "_law_shown", "_law_text_here", "_law_words", "_law_due_here"]
theorem sc_law_right : FnScope N_law_right P_law_right (defScope s_law_right) := ⟨rfl, rfl, rfl, by decide +kernel, rfl, by decide +kernel, by decide +kernel⟩
abbrev sp_law_right (K : PySem.W.Frag) (f h : Addr) {δ : Type} (D : δ → PyData) (A : Str → Prop) (A2 : δ → Prop) (T : δ → Str) (Pm : Str → PyData → Prop) (Xm : Str → Prop) : Sp :=
  spD K (CN K) (fun _ => Mode.no) (fun p : Str × List Str × Option δ => [.r f, .r h, .d (.str p.1), .d (.list (p.2.1.map PyData.str)), .d (optG D p.2.2)])
    (fun p => A p.1 ∧ ((∀ z ∈ p.2.1, okS z = true) ∧ (p.2.1.map (·.length)).sum + p.2.1.length ≤ 100000) ∧ Due D A2 T Pm Xm p.1 p.2.1 p.2.2) (fun _ y => y = .bool true) (fun _ => False)
theorem ok_law_right (W : Wd w K mg) {f h : Addr} {k0 k2 : Nat} (hk : k0 ≤ 6) (hk2 : k2 ≤ 7) {δ : Type} {D : δ → PyData} {A : Str → Prop} {A2 : δ → Prop} {T : δ → Str} {Pm : Str → PyData → Prop} {Xm : Str → Prop} (hD : ∀ d, isNone (D d) = false)
    (FF : FnI P w K mg base k0 f (spD K (CN K) (fun _ => Mode.no) (fun z : Str => [.d (.str z)]) A Pm Xm))
    (FS : FnI P w K mg base k2 h (spD K (CN K) (fun _ => Mode.no) (fun d : δ => [.d (D d)]) A2 (fun d y => y = .str (T d)) (fun _ => False))) :
    FnI P w K mg base 8 (He.ga K "_law_right") (sp_law_right K f h D A A2 T Pm Xm) := by
  obtain ⟨fd, F⟩ := W.fd_law_right
  refine FnI.of F sc_law_right (fun _ _ _ _ _ _ us hl => match us, hl with | [_, _, _, _, _], _ => rfl) (fun _ _ => rfl) fun cdv A' outer s H E hr ⟨z, ws, o⟩ ⟨hA, ⟨hw, hwl⟩, hdue⟩ => ⟨_, (pss_cons (ps_asg (pe_callI (ok_law_told W hk FF) hr W.g_law_told passL (pa_cons (pv 0) (pa_cons (pv 2) pa_nil))) (pg_tupK 2 K rfl (pgs_cons (pg_name (i := 5) sc_law_right.nd rfl (Or.inl rfl)) (pgs_cons (pg_name (i := 6) sc_law_right.nd rfl (Or.inl rfl)) pgs_nil))))
      (pss_cons (ps_if (pt_cmpR op_isNn (pv 4) pe_non (nomark _)) (pss_one (ps_ret (pe_cmpR (opK rEqD K (op_eqD hr.units)) (pv 5) pe_str (nomark _)))) pss_nil)
      (pss_one (ps_ret (pe_and (pe_cmpR (opK rEqD K (op_eqD hr.units)) (pv 5) pe_str (nomark _)) (pe_and (pe_callI (ok_law_same W) hr W.g_law_same passL (pa_cons (pv 6) (pa_cons (pv 4) pa_nil))) (pe_one (pe_cmpR (opK rEqD K (op_eqD hr.units)) (pe_callIL (i := 1) FS hr rfl (by first | exact Or.inl rfl | exact Or.inr (Or.inl rfl)) passL (pa_cons (pv 6) pa_nil) (hk := hk2)) (pe_m1 PySem.F.slot_str_join PySem.F.type_str_join (mtK rJoin K mt_joinD) pe_str (pv 3) rfl) (nomark _))))))))), ?_⟩
  have hw : ∀ z ∈ ws, okS z = true := hw
  have hwl : (ws.map (·.length)).sum + ws.length ≤ 100000 := hwl
  have hjo := join_ok hw
  try dsimp only [cxOf, Cx.blk, Cx.blkE]
  refine ws_seq ?_
  refine ws_unp (.cons _ (.cons _ .nil)) ?_
  refine wp_call (.inr fun _ z => z) ?_
  repeat fail "w"
  cases o with
  | none =>
    have hdue : ∀ y, ¬ Pm z y := hdue
    refine ⟨fun y hy => ?_, fun q => q.elim⟩
    rcases hy with ⟨d, hd, rfl⟩ | ⟨hx, rfl⟩
    · exact absurd hd (hdue d)
    · repeat fail "w"
      simp
  | some d =>
    obtain ⟨q1, q2, q3, q4, q5⟩ : ¬ Xm z ∧ (∀ y, Pm z y → y = D d) ∧ SD4 (D d) ∧ A2 d ∧ T d = Txt.join " " ws := hdue
    refine ⟨fun y hy => ?_, fun q => q.elim⟩
    rcases hy with ⟨d', hd, rfl⟩ | ⟨hx, rfl⟩
    · have e := q2 d' hd
      subst e
      repeat fail "w"
      refine rd_isN' (b := false) (hD d) ?_
      repeat fail "w"
      refine wp_callL (by with_unfolding_all rfl) (wp_callF ?_)
      repeat fail "w"
      have hb1 : Str.length " " = 1 := by decide +kernel
      refine rt_join (by rw [hb1]; omega) ?_
      refine rd_eqS (by rw [q5]; exact hjo) hjo ?_
      refine ⟨_, rfl, ?_⟩
      rw [decide_eq_true q5]
    · exact absurd hx q1
end
end K84

/-! part K84D14 -/
set_option maxHeartbeats 1000000
/-! K84D14: drawn words, names, deeds. -/
namespace K84
local macro_rules | `(tactic| fail "w") => `(tactic| (first | with_reducible refine wp_neg ?_ | with_reducible refine wp_pick ?_ | with_reducible refine wp_draw ?_ | with_reducible refine ws_seq ?_ | with_reducible refine ws_nx ?_ | with_reducible refine ws_set ?_ | with_reducible refine ws_ret ?_ | with_reducible refine ws_if ?_ | with_reducible refine ws_drop ?_ | with_reducible refine wt_or ?_ | with_reducible refine wt_and ?_ | with_reducible refine wt_not ?_ | with_reducible refine wt_B ?_ | with_reducible refine wt_test ?_ | with_reducible refine wp_chain ?_ | with_reducible refine wp_andV ?_ | with_reducible refine wp_orV ?_ | with_reducible refine wp_notV ?_ | with_reducible refine wp_if ?_ | with_reducible refine wp_int ?_ | with_reducible refine wp_var (by with_unfolding_all rfl) ?_ | with_reducible refine wp_str ?_ | with_reducible refine wp_bl ?_ | with_reducible refine wp_non ?_ | with_reducible refine wp_ref ?_ | with_reducible refine wp_op ?_ | with_reducible refine wp_tup' ?_ | with_reducible refine wp_lst' ?_ | with_reducible refine wa_cons ?_ | with_reducible refine wa_nil ?_ | with_reducible refine wp_sl ?_ | with_reducible refine wo_none ?_ | with_reducible refine wo_some ?_ | with_reducible refine wp_isi' (by simp) ?_ | with_reducible refine wp_allIn (by with_unfolding_all rfl) (by assumption) (by with_unfolding_all exact of_decide_eq_true rfl) (by with_unfolding_all rfl) ?_ | with_reducible refine wp_cb ?_ | with_reducible refine wp_m1 ?_ | with_reducible refine rs_T1 ?_ | with_reducible refine rs_T' (by with_unfolding_all rfl) (by with_unfolding_all rfl) ?_ | with_reducible refine wi_list ?_ | with_reducible refine wi_tup ?_ | with_reducible refine wi_str ?_ | with_reducible refine wi_rng1 ?_ | with_reducible refine wi_rng2 ?_ | with_reducible refine wi_zipT ?_ | with_reducible refine wi_zipM ?_ | with_reducible refine wi_enum ?_ | with_reducible refine rd_ib ?_ | with_reducible refine rd_ii ?_ | with_reducible refine rd_inSg ?_ | with_reducible refine rd_mod (by first | assumption | decide) ?_ | with_reducible refine rd_mul (cmul_r (by decide +kernel)) ?_ | with_reducible refine rd_mul (cmul_l (by decide +kernel)) ?_ | with_reducible refine rc_max ?_ | with_reducible refine rc_min ?_ | with_reducible refine rd_eqI ?_ | with_reducible refine rd_neI ?_ | with_reducible refine rd_eqS (by first | assumption | decide +kernel) (by first | assumption | decide +kernel) ?_ | with_reducible refine rd_neS (by first | assumption | decide +kernel) (by first | assumption | decide +kernel) ?_ | with_reducible refine rd_iC (cpow_ok (by with_unfolding_all rfl)) ?_ | with_reducible refine rd_isN' (b := true) (by with_unfolding_all rfl) ?_ | with_reducible refine rd_isN' (b := false) (by with_unfolding_all rfl) ?_ | with_reducible refine rd_notN' (b := true) (by with_unfolding_all rfl) ?_ | with_reducible refine rd_notN' (b := false) (by with_unfolding_all rfl) ?_ | with_reducible refine rc_len (by first | assumption | with_unfolding_all rfl) ?_ | with_reducible refine rd_ixT0 ?_ | with_reducible refine rd_ixL0 ?_ | with_reducible refine rd_ixT (by first | assumption | with_unfolding_all rfl) ?_ | with_reducible refine rd_ixL (by first | assumption | with_unfolding_all rfl) ?_ | with_reducible refine wp_callF ?_ | with_reducible refine rc_tupL ?_ | with_reducible refine rc_strS ?_ | with_reducible refine rc_all ?_ | with_reducible refine L2.iteT ?_ | with_reducible refine ite_dT (by with_unfolding_all exact of_decide_eq_true rfl) ?_ | with_reducible refine ite_dF (by with_unfolding_all exact of_decide_eq_false rfl) ?_ | with_reducible refine ite_ndT (by with_unfolding_all exact of_decide_eq_true rfl) ?_ | with_reducible refine ite_ndF (by with_unfolding_all exact of_decide_eq_false rfl) ?_ | with_reducible refine L2.iteF ?_ | with_reducible refine ite_nt ?_ | with_reducible refine ite_nf ?_ | refine ⟨_, true, rfl, rfl, ?_⟩ | refine ⟨_, false, rfl, rfl, ?_⟩ | with_reducible refine ⟨_, rfl, ?_⟩ | with_reducible refine ⟨_, _, rfl, ?_⟩ | with_reducible refine And.intro (by first | assumption | exact trivial | with_unfolding_all exact of_decide_eq_true rfl) ?_ | with_reducible refine And.intro Mode.Sub.no ?_ | with_reducible refine ⟨_, (by with_unfolding_all rfl), (by with_unfolding_all exact of_decide_eq_true rfl), ?_⟩))
open PySem PySem.Spec PyProof.Rows L2
section
variable {P : Program} {w : World} {K : PySem.W.Frag} {mg : Str → Option Value} {base : Heap}
abbrev N_law_word : List Str := ["_law_left_here", "_law_letters", "_law_kept", "_law_size", "_law_stem", "_law_k"]
abbrev P_law_word : List Str := ["_law_left_here"]
theorem sc_law_word : FnScope N_law_word P_law_word (defScope s_law_word) := ⟨rfl, rfl, rfl, by decide +kernel, rfl, by decide +kernel, by decide +kernel⟩
abbrev sp_law_word (K : PySem.W.Frag) : Sp := spW K (fun y => ∃ z, y = .str z ∧ wordB z = true)
def kept : List Str := ["bell", "at", "got", "after", "to", "join", "say", "do", "free", "hand", "note", "held", "twin", "a"]
theorem kept_ok : ∀ z ∈ kept, wordB z = true := by decide +kernel
/-- drawn signs put together -/
theorem stem_of : ∀ {its : List Dv} {ys : List PyData}, Paired (fun (_ : Dv) (y : PyData) => ∃ c, y = .str ⟨#[c]⟩ ∧ lowB c = true) its ys → ∃ cs : List Nat, ys = (cs.map fun c => (⟨#[c]⟩ : Str)).map PyData.str ∧ cs.length = its.length ∧ ∀ c ∈ cs, lowB c = true
  | _, _, .nil => ⟨[], rfl, rfl, fun _ h => by simp at h⟩
  | _, _, .cons ⟨c, e, h⟩ t => by
    obtain ⟨cs, e1, e2, e3⟩ := stem_of t
    subst e
    refine ⟨c :: cs, by rw [e1]; rfl, by simp [e2], fun d hd => ?_⟩
    rcases List.mem_cons.mp hd with q | q
    · rw [q]; exact h
    · exact e3 d q
theorem stem_tl (cs : List Nat) : TL.tl (Txt.join "" (cs.map fun c => (⟨#[c]⟩ : Str))) = cs := by
  rw [TL.join_eq, TL.tl_join]
  have e : TL.tl "" = [] := by decide +kernel
  rw [e]
  induction cs with
  | nil => rfl
  | cons c r ih =>
    cases r with
    | nil => rfl
    | cons d r =>
      show [c] ++ [] ++ _ = _
      rw [List.append_nil]
      exact congrArg (c :: ·) ih
theorem join_room0 {ws : List Str} (h : ∀ z ∈ ws, z.length ≤ 1) (hl : ws.length ≤ 2000) : (ws.map (·.length)).sum + ws.length * Str.length "" ≤ 16777216 := by
  have e : Str.length "" = 0 := by decide +kernel
  have h1 : ∀ {ws : List Str}, (∀ z ∈ ws, z.length ≤ 1) → (ws.map (·.length)).sum ≤ ws.length := by
    intro ws
    induction ws with
    | nil => intro _; exact Nat.le_refl _
    | cons a r ih =>
      intro h
      have := h a List.mem_cons_self
      have := ih fun z hz => h z (List.mem_cons_of_mem _ hz)
      rw [List.map_cons, List.sum_cons, List.length_cons]
      omega
  have := h1 h
  rw [e]
  omega
theorem ok_law_word (W : Wd w K mg) : FnI P w K mg base 2 (He.ga K "_law_word") (sp_law_word K) := by
  obtain ⟨fd, F⟩ := W.fd_law_word
  refine FnI.of F sc_law_word (fun _ _ _ _ _ _ us hl => match us, hl with | [_], _ => rfl) (fun _ _ => rfl) fun cdv A outer s H E hr l _ => ⟨_, (pss_cons (ps_set (i := 1) sc_law_word.nd rfl (Or.inr rfl) pe_str)
      (pss_cons (ps_set (i := 2) sc_law_word.nd rfl (Or.inl rfl) (pe_lst (pa_cons pe_str (pa_cons pe_str (pa_cons pe_str (pa_cons pe_str (pa_cons pe_str (pa_cons pe_str (pa_cons pe_str (pa_cons pe_str (pa_cons pe_str (pa_cons pe_str (pa_cons pe_str (pa_cons pe_str (pa_cons pe_str (pa_cons pe_str pa_nil))))))))))))))))
      (pss_cons (ps_set (i := 3) sc_law_word.nd rfl (Or.inl rfl) (pe_ix (ixK rIxL K ix_list) (pe_lst (pa_cons pe_int (pa_cons pe_int (pa_cons pe_int (pa_cons pe_int (pa_cons (pe_op op_add pe_int (pe_callI (ok_law_pick W) hr W.g_law_pick passL (pa_cons (pv 0) (pa_cons pe_int pa_nil)))) pa_nil)))))) (pe_callI (ok_law_pick W) hr W.g_law_pick passL (pa_cons (pv 0) (pa_cons pe_int pa_nil))) (fun _ _ => rfl)))
      (pss_cons (ps_set (i := 4) sc_law_word.nd rfl (Or.inl rfl) (pe_m1 PySem.F.slot_str_join PySem.F.type_str_join (mtK rJoin K mt_joinD) pe_str (pe_lc (own := [("_law_k", 5)]) (g := gName 5) (tt := tYes) rfl sc_law_word.nd (pi_range1 rfl W.f_range (pa_cons pe_int pa_nil)) (blkOk_by (own := [("_law_k", 5)]) (N := N_law_word) (sc := defScope s_law_word) (by decide +kernel)) (fun _ _ _ _ _ => (pg_name (i := 5) sc_law_word.nd rfl (Or.inl rfl))) (fun _ _ _ _ _ => pts_nil) (fun _ _ _ _ _ => (pe_ix ix_str (pv 1) (pe_callI (ok_law_pick W) hr W.g_law_pick passL (pa_cons (pv 0) (pa_cons pe_int pa_nil))) (fun _ _ => rfl)))) rfl))
      (pss_one (ps_ret (pe_ix (ixK rIxL K ix_list) (pe_lst (pa_cons (pe_slice sl_str (pe_op op_mulS (pv 4) pe_int) po_none (po_some (pv 3))) (pa_cons (pe_ix (ixK rIxL K ix_list) (pv 2) (pe_callI (ok_law_pick W) hr W.g_law_pick passL (pa_cons (pv 0) (pa_cons pe_int pa_nil))) (fun _ _ => rfl)) pa_nil))) (pe_callTy call_intB rfl W.f_int PyProof.Rows.Boot.«int» (pa_cons (pe_cmpR (opK rEqD K (op_eqD hr.units)) (pe_callI (ok_law_pick W) hr W.g_law_pick passL (pa_cons (pv 0) (pa_cons pe_int pa_nil))) pe_int (nomark _)) pa_nil)) (fun _ _ => rfl)))))))), ?_⟩
  try dsimp only [cxOf, Cx.blk, Cx.blkE]
  repeat fail "w"
  intro n1 a1 b1
  repeat fail "w"
  intro n2 a2 b2
  refine rd_ixN a2 b2 (fun y hy => ?_)
  obtain ⟨sz, rfl, hs1, hs2⟩ : ∃ m, y = PyData.int m ∧ 1 ≤ m ∧ m ≤ 12 := by
    simp only [List.mem_cons, List.not_mem_nil, or_false] at hy
    rcases hy with rfl | rfl | rfl | rfl | rfl
    · exact ⟨_, rfl, by decide, by decide⟩
    · exact ⟨_, rfl, by decide, by decide⟩
    · exact ⟨_, rfl, by decide, by decide⟩
    · exact ⟨_, rfl, by decide, by decide⟩
    · exact ⟨_, rfl, by omega, by omega⟩
  repeat fail "w"
  refine wp_lc0 (fun _ y => ∃ c, y = .str ⟨#[c]⟩ ∧ lowB c = true) ?_
  repeat fail "w"
  refine ⟨fun d hd => ⟨_, tgt_name (by decide), ?_⟩, fun ys hp => ?_⟩
  · repeat fail "w"
    intro n3 a3 b3
    obtain ⟨i, rfl⟩ : ∃ i : Nat, n3 = (i : Int) := ⟨n3.toNat, (Int.toNat_of_nonneg a3).symm⟩
    have hlen : lows.cps.toList.length = 26 := by decide +kernel
    have hi : i < lows.cps.toList.length := by omega
    refine rd_ixS (z := lows) (by rw [sizeLine_eq]; decide +kernel) (atI_nat (List.getElem?_eq_getElem hi)) ?_
    exact ⟨_, rfl, _, rfl, decide_eq_true (List.getElem_mem hi)⟩
  · obtain ⟨cs, rfl, hcl, hlow⟩ := stem_of hp
    have hst := stem_tl cs
    have hcl4 : cs.length = 4 := hcl
    have hjl : ((cs.map fun c => (⟨#[c]⟩ : Str)).map (·.length)).sum + (cs.map fun c => (⟨#[c]⟩ : Str)).length * Str.length "" ≤ 16777216 := by
      refine join_room0 (fun z hz => ?_) (by rw [List.length_map]; omega)
      obtain ⟨c, hc, rfl⟩ := List.mem_map.mp hz
      exact Nat.le_refl 1
    refine rt_join hjl ?_
    have hl4 : (TL.tl (Txt.join "" (cs.map fun c => (⟨#[c]⟩ : Str)))).length = 4 := by rw [hst]; exact hcl4
    have hlw : ∀ c ∈ TL.tl (Txt.join "" (cs.map fun c => (⟨#[c]⟩ : Str))), lowB c = true := by rw [hst]; exact hlow
    generalize Txt.join "" (cs.map fun c => (⟨#[c]⟩ : Str)) = st at *
    have hsl : st.length ≤ 1000 := by rw [TL.len_tl]; omega
    have hw := stem_word hl4 hlw hs1 hs2
    repeat fail "w"
    refine rd_mulS (by decide) (by decide) hsl ?_
    repeat fail "w"
    refine rs_S (z := Txt.mul st 3) (by rw [len_mul st (by decide), TL.len_tl, hl4, sizeLine_eq]; decide) ?_
    repeat fail "w"
    intro n5 a5 b5
    refine rd_ixN a5 b5 (fun y hy => ?_)
    obtain ⟨z5, hz5, rfl⟩ := List.mem_map.mp (show y ∈ kept.map PyData.str from hy)
    repeat fail "w"
    intro n6 a6 b6
    repeat fail "w"
    refine rc_intB ?_
    repeat fail "w"
    refine rd_ixN (by split <;> decide) (by split <;> simp) (fun y hy => ?_)
    simp only [List.mem_cons, List.not_mem_nil, or_false] at hy
    rcases hy with rfl | rfl
    · exact ⟨_, rfl, _, rfl, hw⟩
    · exact ⟨_, rfl, _, rfl, kept_ok z5 hz5⟩
abbrev N_law_name : List Str := ["_law_left_here", "_law_house", "_law_deal"]
abbrev P_law_name : List Str := ["_law_left_here"]
theorem sc_law_name : FnScope N_law_name P_law_name (defScope s_law_name) := ⟨rfl, rfl, rfl, by decide +kernel, rfl, by decide +kernel, by decide +kernel⟩
abbrev sp_law_name (K : PySem.W.Frag) : Sp := spW K (fun y => ∃ p : Nm, y = nameD p ∧ (wordB p.1 = true ∧ wordB p.2.1 = true) ∧ 1 ≤ p.2.2 ∧ p.2.2 < 10 ^ 30)
theorem ok_law_name (W : Wd w K mg) : FnI P w K mg base 3 (He.ga K "_law_name") (sp_law_name K) := by
  obtain ⟨fd, F⟩ := W.fd_law_name
  refine FnI.of F sc_law_name (fun _ _ _ _ _ _ us hl => match us, hl with | [_], _ => rfl) (fun _ _ => rfl) fun cdv A outer s H E hr l _ => ⟨_, (pss_cons (ps_set (i := 1) sc_law_name.nd rfl (Or.inl rfl) (pe_callI (ok_law_word W) hr W.g_law_word passL (pa_cons (pv 0) pa_nil)))
      (pss_cons (ps_set (i := 2) sc_law_name.nd rfl (Or.inl rfl) (pe_callI (ok_law_word W) hr W.g_law_word passL (pa_cons (pv 0) pa_nil)))
      (pss_one (ps_ret (pe_tup (pa_cons (pv 1) (pa_cons (pv 2) (pa_cons (pe_op op_add pe_int (pe_op op_mod (pe_callI (ok_law_number W) hr W.g_law_number passL (pa_cons (pv 0) pa_nil)) (pe_op op_sub (pe_op op_pow pe_int pe_int) pe_int))) pa_nil)))))))), ?_⟩
  try dsimp only [cxOf, Cx.blk, Cx.blkE]
  repeat fail "w"
  refine ⟨rfl, fun y ⟨z1, ey, w1⟩ => ?_⟩
  subst ey
  repeat fail "w"
  refine ⟨rfl, fun y ⟨z2, ey, w2⟩ => ?_⟩
  subst ey
  repeat fail "w"
  refine ⟨rfl, fun y ⟨n, ey, n0, n1⟩ => ?_⟩
  subst ey
  have h30 : (0 : Int) < 10 ^ (30 : Int).toNat - 1 := by decide +kernel
  have e30 : (10 : Int) ^ (30 : Int).toNat = 10 ^ 30 := by decide +kernel
  have q0 := Int.emod_nonneg n (b := 10 ^ (30 : Int).toNat - 1) (by omega)
  have q1 := Int.emod_lt_of_pos n h30
  repeat fail "w"
  refine ⟨(z1, z2, 1 + n % (10 ^ (30 : Int).toNat - 1)), rfl, ⟨w1, w2⟩, ?_, ?_⟩
  · show 1 ≤ 1 + n % (10 ^ (30 : Int).toNat - 1)
    omega
  · show 1 + n % (10 ^ (30 : Int).toNat - 1) < 10 ^ 30
    omega
end
end K84

/-! part K84D16 -/
set_option maxHeartbeats 1000000
/-! K84D16: drawn claims. -/
namespace K84
local macro_rules | `(tactic| fail "w") => `(tactic| (first | with_reducible refine wp_neg ?_ | with_reducible refine wp_pick ?_ | with_reducible refine wp_draw ?_ | with_reducible refine ws_seq ?_ | with_reducible refine ws_nx ?_ | with_reducible refine ws_set ?_ | with_reducible refine ws_ret ?_ | with_reducible refine ws_if ?_ | with_reducible refine ws_drop ?_ | with_reducible refine wt_or ?_ | with_reducible refine wt_and ?_ | with_reducible refine wt_not ?_ | with_reducible refine wt_B ?_ | with_reducible refine wt_test ?_ | with_reducible refine wp_chain ?_ | with_reducible refine wp_andV ?_ | with_reducible refine wp_orV ?_ | with_reducible refine wp_notV ?_ | with_reducible refine wp_if ?_ | with_reducible refine wp_int ?_ | with_reducible refine wp_var (by with_unfolding_all rfl) ?_ | with_reducible refine wp_str ?_ | with_reducible refine wp_bl ?_ | with_reducible refine wp_non ?_ | with_reducible refine wp_ref ?_ | with_reducible refine wp_op ?_ | with_reducible refine wp_tup' ?_ | with_reducible refine wp_lst' ?_ | with_reducible refine wa_cons ?_ | with_reducible refine wa_nil ?_ | with_reducible refine wp_sl ?_ | with_reducible refine wo_none ?_ | with_reducible refine wo_some ?_ | with_reducible refine wp_isi' (by simp) ?_ | with_reducible refine wp_allIn (by with_unfolding_all rfl) (by assumption) (by with_unfolding_all exact of_decide_eq_true rfl) (by with_unfolding_all rfl) ?_ | with_reducible refine wp_cb ?_ | with_reducible refine wp_m1 ?_ | with_reducible refine rs_T1 ?_ | with_reducible refine rs_T' (by with_unfolding_all rfl) (by with_unfolding_all rfl) ?_ | with_reducible refine wi_list ?_ | with_reducible refine wi_tup ?_ | with_reducible refine wi_str ?_ | with_reducible refine wi_rng1 ?_ | with_reducible refine wi_rng2 ?_ | with_reducible refine wi_zipT ?_ | with_reducible refine wi_zipM ?_ | with_reducible refine wi_enum ?_ | with_reducible refine rd_ib ?_ | with_reducible refine rd_ii ?_ | with_reducible refine rd_inSg ?_ | with_reducible refine rd_mod (by first | assumption | decide) ?_ | with_reducible refine rd_mul (cmul_r (by decide +kernel)) ?_ | with_reducible refine rd_mul (cmul_l (by decide +kernel)) ?_ | with_reducible refine rc_max ?_ | with_reducible refine rc_min ?_ | with_reducible refine rd_eqI ?_ | with_reducible refine rd_neI ?_ | with_reducible refine rd_eqS (by first | assumption | decide +kernel) (by first | assumption | decide +kernel) ?_ | with_reducible refine rd_neS (by first | assumption | decide +kernel) (by first | assumption | decide +kernel) ?_ | with_reducible refine rd_iC (cpow_ok (by with_unfolding_all rfl)) ?_ | with_reducible refine rd_isN' (b := true) (by with_unfolding_all rfl) ?_ | with_reducible refine rd_isN' (b := false) (by with_unfolding_all rfl) ?_ | with_reducible refine rd_notN' (b := true) (by with_unfolding_all rfl) ?_ | with_reducible refine rd_notN' (b := false) (by with_unfolding_all rfl) ?_ | with_reducible refine rc_len (by first | assumption | with_unfolding_all rfl) ?_ | with_reducible refine rd_ixT0 ?_ | with_reducible refine rd_ixL0 ?_ | with_reducible refine rd_ixT (by first | assumption | with_unfolding_all rfl) ?_ | with_reducible refine rd_ixL (by first | assumption | with_unfolding_all rfl) ?_ | with_reducible refine wp_callF ?_ | with_reducible refine rc_tupL ?_ | with_reducible refine rc_strS ?_ | with_reducible refine rc_all ?_ | with_reducible refine L2.iteT ?_ | with_reducible refine ite_dT (by with_unfolding_all exact of_decide_eq_true rfl) ?_ | with_reducible refine ite_dF (by with_unfolding_all exact of_decide_eq_false rfl) ?_ | with_reducible refine ite_ndT (by with_unfolding_all exact of_decide_eq_true rfl) ?_ | with_reducible refine ite_ndF (by with_unfolding_all exact of_decide_eq_false rfl) ?_ | with_reducible refine L2.iteF ?_ | with_reducible refine ite_nt ?_ | with_reducible refine ite_nf ?_ | refine ⟨_, true, rfl, rfl, ?_⟩ | refine ⟨_, false, rfl, rfl, ?_⟩ | with_reducible refine ⟨_, rfl, ?_⟩ | with_reducible refine ⟨_, _, rfl, ?_⟩ | with_reducible refine And.intro (by first | assumption | exact trivial | with_unfolding_all exact of_decide_eq_true rfl) ?_ | with_reducible refine And.intro Mode.Sub.no ?_ | with_reducible refine ⟨_, (by with_unfolding_all rfl), (by with_unfolding_all exact of_decide_eq_true rfl), ?_⟩))
open PySem PySem.Spec PyProof.Rows L2
section
variable {P : Program} {w : World} {K : PySem.W.Frag} {mg : Str → Option Value} {base : Heap}
def GoodN (p : Nm) : Prop := (wordB p.1 = true ∧ wordB p.2.1 = true) ∧ 1 ≤ p.2.2 ∧ p.2.2 < 10 ^ 30
def GoodP : Part → Prop
  | .nm g => GoodN g
  | .nu i => 0 ≤ i ∧ i < 10 ^ 30
structure CParts (z : Str) (ps : List Part) : Prop where
  w : wordB z = true
  lo : 1 ≤ ps.length
  hi : ps.length ≤ 3
  ok : ∀ p ∈ ps, GoodP p
abbrev N_law_claim : List Str := ["_law_left_here", "_law_name_here", "_law_c", "_law_some"]
abbrev P_law_claim : List Str := ["_law_left_here"]
theorem sc_law_claim : FnScope N_law_claim P_law_claim (defScope s_law_claim) := ⟨rfl, rfl, rfl, by decide +kernel, rfl, by decide +kernel, by decide +kernel⟩
abbrev sp_law_claim (K : PySem.W.Frag) : Sp := spW K (fun y => ∃ (z : Str) (ps : List Part), y = .tuple (.str z :: ps.map Part.D) ∧ CParts z ps)
theorem ok_law_claim (W : Wd w K mg) : FnI P w K mg base 4 (He.ga K "_law_claim") (sp_law_claim K) := by
  obtain ⟨fd, F⟩ := W.fd_law_claim
  refine FnI.of F sc_law_claim (fun _ _ _ _ _ _ us hl => match us, hl with | [_], _ => rfl) (fun _ _ => rfl) fun cdv A outer s H E hr l _ => ⟨_, (pss_cons (ps_set (i := 1) sc_law_claim.nd rfl (Or.inl rfl) (pe_callI (ok_law_name W) hr W.g_law_name passL (pa_cons (pv 0) pa_nil)))
      (pss_cons (ps_set (i := 2) sc_law_claim.nd rfl (Or.inl rfl) (pe_callI (ok_law_pick W) hr W.g_law_pick passL (pa_cons (pv 0) (pa_cons pe_int pa_nil))))
      (pss_cons (ps_set (i := 3) sc_law_claim.nd rfl (Or.inl rfl) (pe_lst (pa_cons (pe_tup (pa_cons pe_str (pa_cons (pv 1) (pa_cons (pv 2) (pa_cons (pe_callI (ok_law_number W) hr W.g_law_number passL (pa_cons (pv 0) pa_nil)) pa_nil))))) (pa_cons (pe_tup (pa_cons pe_str (pa_cons (pv 1) (pa_cons (pv 2) pa_nil)))) (pa_cons (pe_tup (pa_cons pe_str (pa_cons (pv 1) (pa_cons (pv 2) pa_nil)))) (pa_cons (pe_tup (pa_cons pe_str (pa_cons (pv 1) pa_nil))) pa_nil))))))
      (pss_cons (ps_set (i := 3) sc_law_claim.nd rfl (Or.inl rfl) (pe_op op_cat (pv 3) (pe_lst (pa_cons (pe_tup (pa_cons pe_str (pa_cons (pv 1) pa_nil))) (pa_cons (pe_tup (pa_cons pe_str (pa_cons (pv 1) (pa_cons (pe_callI (ok_law_name W) hr W.g_law_name passL (pa_cons (pv 0) pa_nil)) pa_nil)))) (pa_cons (pe_tup (pa_cons pe_str (pa_cons (pv 1) pa_nil))) (pa_cons (pe_tup (pa_cons pe_str (pa_cons (pv 1) pa_nil))) (pa_cons (pe_tup (pa_cons pe_str (pa_cons (pv 1) pa_nil))) pa_nil))))))))
      (pss_one (ps_ret (pe_ix (ixK rIxL K ix_list) (pv 3) (pe_callI (ok_law_pick W) hr W.g_law_pick passL (pa_cons (pv 0) (pa_cons pe_int pa_nil))) (fun _ _ => rfl)))))))), ?_⟩
  try dsimp only [cxOf, Cx.blk, Cx.blkE]
  repeat fail "w"
  refine ⟨rfl, fun y ⟨g, ey, gw, g0, g1⟩ => ?_⟩
  subst ey
  repeat fail "w"
  intro c c0 c1
  repeat fail "w"
  refine ⟨rfl, fun y ⟨n, ey, n0, n1⟩ => ?_⟩
  subst ey
  repeat fail "w"
  refine ⟨rfl, fun y ⟨g2, ey, gw2, g02, g12⟩ => ?_⟩
  subst ey
  repeat fail "w"
  refine rd_catL (by rw [sizeLine_eq]; simp) ?_
  repeat fail "w"
  intro m m0 m1
  refine rd_ixN m0 (by simp; omega) (fun y hy => ?_)
  have hc : GoodP (.nu c) := ⟨c0, by omega⟩
  have hn : GoodP (.nu n) := ⟨n0, n1⟩
  have hg : GoodP (.nm g) := ⟨gw, g0, g1⟩
  have hg2 : GoodP (.nm g2) := ⟨gw2, g02, g12⟩
  have mk : ∀ (z : Str) (ps : List Part), y = .tuple (.str z :: ps.map Part.D) → CParts z ps → ∃ (z : Str) (ps : List Part), y = .tuple (.str z :: ps.map Part.D) ∧ CParts z ps := fun z ps h1 h2 => ⟨z, ps, h1, h2⟩
  simp only [List.cons_append, List.nil_append, List.mem_cons, List.not_mem_nil, or_false] at hy
  refine ⟨_, rfl, ?_⟩
  rcases hy with rfl | rfl | rfl | rfl | rfl | rfl | rfl | rfl | rfl
  · exact mk "held" [.nm g, .nu c, .nu n] rfl ⟨by decide +kernel, by simp, by simp, fun a ha => by simp at ha; rcases ha with rfl | rfl | rfl <;> assumption⟩
  · exact mk "kept" [.nm g, .nu c] rfl ⟨by decide +kernel, by simp, by simp, fun a ha => by simp at ha; rcases ha with rfl | rfl <;> assumption⟩
  · exact mk "late" [.nm g, .nu c] rfl ⟨by decide +kernel, by simp, by simp, fun a ha => by simp at ha; rcases ha with rfl | rfl <;> assumption⟩
  · exact mk "ill" [.nm g] rfl ⟨by decide +kernel, by simp, by simp, fun a ha => by simp at ha; subst ha; assumption⟩
  · exact mk "back" [.nm g] rfl ⟨by decide +kernel, by simp, by simp, fun a ha => by simp at ha; subst ha; assumption⟩
  · exact mk "twin" [.nm g, .nm g2] rfl ⟨by decide +kernel, by simp, by simp, fun a ha => by simp at ha; rcases ha with rfl | rfl <;> assumption⟩
  · exact mk "loose" [.nm g] rfl ⟨by decide +kernel, by simp, by simp, fun a ha => by simp at ha; subst ha; assumption⟩
  · exact mk "behind" [.nm g] rfl ⟨by decide +kernel, by simp, by simp, fun a ha => by simp at ha; subst ha; assumption⟩
  · exact mk "ahead" [.nm g] rfl ⟨by decide +kernel, by simp, by simp, fun a ha => by simp at ha; subst ha; assumption⟩
end
end K84

/-! part K84D11 -/
set_option maxHeartbeats 1000000
/-! K84D11: shown_claim. -/
namespace K84
local macro_rules | `(tactic| fail "f") => `(tactic| (first | with_reducible refine fs_nx ?_ | with_reducible refine fs_ret ?_ | with_reducible refine fs_if ?_ | with_reducible refine ft_B ?_ | with_reducible refine ft_test ?_ | with_reducible refine ft_not ?_ | with_reducible refine wf_op ?_ | with_reducible refine wf_cb ?_ | with_reducible refine wf_tup ?_ | with_reducible refine fa_cons ?_ | with_reducible refine fa_nil ?_ | with_reducible refine wf_vr (by with_unfolding_all rfl) ?_ | with_reducible refine wf_in ?_ | with_reducible refine wf_st ?_ | with_reducible refine wf_b ?_ | with_reducible refine wf_nn ?_ | fail "w"))
local macro_rules | `(tactic| fail "w") => `(tactic| (first | with_reducible refine wp_neg ?_ | with_reducible refine wp_pick ?_ | with_reducible refine wp_draw ?_ | with_reducible refine ws_seq ?_ | with_reducible refine ws_nx ?_ | with_reducible refine ws_set ?_ | with_reducible refine ws_ret ?_ | with_reducible refine ws_if ?_ | with_reducible refine ws_drop ?_ | with_reducible refine wt_or ?_ | with_reducible refine wt_and ?_ | with_reducible refine wt_not ?_ | with_reducible refine wt_B ?_ | with_reducible refine wt_test ?_ | with_reducible refine wp_chain ?_ | with_reducible refine wp_andV ?_ | with_reducible refine wp_orV ?_ | with_reducible refine wp_notV ?_ | with_reducible refine wp_if ?_ | with_reducible refine wp_int ?_ | with_reducible refine wp_var (by with_unfolding_all rfl) ?_ | with_reducible refine wp_str ?_ | with_reducible refine wp_bl ?_ | with_reducible refine wp_non ?_ | with_reducible refine wp_ref ?_ | with_reducible refine wp_op ?_ | with_reducible refine wp_tup' ?_ | with_reducible refine wp_lst' ?_ | with_reducible refine wa_cons ?_ | with_reducible refine wa_nil ?_ | with_reducible refine wp_sl ?_ | with_reducible refine wo_none ?_ | with_reducible refine wo_some ?_ | with_reducible refine wp_isi' (by simp) ?_ | with_reducible refine wp_allIn (by with_unfolding_all rfl) (by assumption) (by with_unfolding_all exact of_decide_eq_true rfl) (by with_unfolding_all rfl) ?_ | with_reducible refine wp_cb ?_ | with_reducible refine wp_m1 ?_ | with_reducible refine rs_T1 ?_ | with_reducible refine rs_T' (by with_unfolding_all rfl) (by with_unfolding_all rfl) ?_ | with_reducible refine wi_list ?_ | with_reducible refine wi_tup ?_ | with_reducible refine wi_str ?_ | with_reducible refine wi_rng1 ?_ | with_reducible refine wi_rng2 ?_ | with_reducible refine wi_zipT ?_ | with_reducible refine wi_zipM ?_ | with_reducible refine wi_enum ?_ | with_reducible refine rd_ib ?_ | with_reducible refine rd_ii ?_ | with_reducible refine rd_inSg ?_ | with_reducible refine rd_mod (by first | assumption | decide) ?_ | with_reducible refine rd_mul (cmul_r (by decide +kernel)) ?_ | with_reducible refine rd_mul (cmul_l (by decide +kernel)) ?_ | with_reducible refine rc_max ?_ | with_reducible refine rc_min ?_ | with_reducible refine rd_eqI ?_ | with_reducible refine rd_neI ?_ | with_reducible refine rd_eqS (by first | assumption | decide +kernel) (by first | assumption | decide +kernel) ?_ | with_reducible refine rd_neS (by first | assumption | decide +kernel) (by first | assumption | decide +kernel) ?_ | with_reducible refine rd_iC (cpow_ok (by with_unfolding_all rfl)) ?_ | with_reducible refine rd_isN' (b := true) (by with_unfolding_all rfl) ?_ | with_reducible refine rd_isN' (b := false) (by with_unfolding_all rfl) ?_ | with_reducible refine rd_notN' (b := true) (by with_unfolding_all rfl) ?_ | with_reducible refine rd_notN' (b := false) (by with_unfolding_all rfl) ?_ | with_reducible refine rc_len (by first | assumption | with_unfolding_all rfl) ?_ | with_reducible refine rd_ixT0 ?_ | with_reducible refine rd_ixL0 ?_ | with_reducible refine rd_ixT (by first | assumption | with_unfolding_all rfl) ?_ | with_reducible refine rd_ixL (by first | assumption | with_unfolding_all rfl) ?_ | with_reducible refine wp_callF ?_ | with_reducible refine rc_tupL ?_ | with_reducible refine rc_strS ?_ | with_reducible refine rc_all ?_ | with_reducible refine L2.iteT ?_ | with_reducible refine ite_dT (by with_unfolding_all exact of_decide_eq_true rfl) ?_ | with_reducible refine ite_dF (by with_unfolding_all exact of_decide_eq_false rfl) ?_ | with_reducible refine ite_ndT (by with_unfolding_all exact of_decide_eq_true rfl) ?_ | with_reducible refine ite_ndF (by with_unfolding_all exact of_decide_eq_false rfl) ?_ | with_reducible refine L2.iteF ?_ | with_reducible refine ite_nt ?_ | with_reducible refine ite_nf ?_ | refine ⟨_, true, rfl, rfl, ?_⟩ | refine ⟨_, false, rfl, rfl, ?_⟩ | with_reducible refine ⟨_, rfl, ?_⟩ | with_reducible refine ⟨_, _, rfl, ?_⟩ | with_reducible refine And.intro (by first | assumption | exact trivial | with_unfolding_all exact of_decide_eq_true rfl) ?_ | with_reducible refine And.intro Mode.Sub.no ?_ | with_reducible refine ⟨_, (by with_unfolding_all rfl), (by with_unfolding_all exact of_decide_eq_true rfl), ?_⟩))
open PySem PySem.Spec PyProof.Rows L2
section
variable {P : Program} {w : World} {K : PySem.W.Frag} {mg : Str → Option Value} {base : Heap}
def partT : Part → Str
  | .nm p => nameT p
  | .nu i => numT i
def Part.Num : Part → Prop
  | .nm p => Bi p.2.2
  | .nu i => Bi i
def shownC (c : Claim) : List Str := c.word :: c.parts.map fun p => partT p.1
abbrev N_shown_claim : List Str := ["claim", "words", "part"]
abbrev P_shown_claim : List Str := ["claim"]
theorem sc_shown_claim : FnScope N_shown_claim P_shown_claim (defScope s_shown_claim) := ⟨rfl, rfl, rfl, by decide +kernel, rfl, by decide +kernel, by decide +kernel⟩
abbrev sp_shown_claim (K : PySem.W.Frag) : Sp := spD K (CN K) (fun _ => Mode.no) (fun c : Claim => [.d c.D]) (fun c => c.Ok ∧ (∀ p ∈ c.parts, p.1.Num) ∧ ∀ z ∈ shownC c, z.length ≤ 1000) (fun c y => y = .str (Txt.join " " (shownC c))) (fun _ => False)
theorem ok_shown_claim (W : Wd w K mg) : FnI P w K mg base 2 (He.ga K "shown_claim") (sp_shown_claim K) := by
  obtain ⟨fd, F⟩ := W.fd_shown_claim
  refine FnI.of F sc_shown_claim (fun _ _ _ _ _ _ us hl => match us, hl with | [_], _ => rfl) (fun _ _ => rfl) fun cdv A outer s H E hr ⟨cw, ps⟩ ⟨h1, h2, h3⟩ => ⟨_, (pss_cons (ps_set (i := 1) sc_shown_claim.nd rfl (Or.inl rfl) (pe_lst (pa_cons (pe_ix (ixK rIxT K ix_tup) (pv 0) pe_int (fun _ _ => rfl)) pa_nil)))
      (pss_cons (ps_for (passes_of rfl) rfl (pi_tup (pe_slice (slK rSlT K sl_tup) (pv 0) (po_some pe_int) po_none)) (pg_name (i := 2) sc_shown_claim.nd rfl (Or.inl rfl)) (pss_one (ps_expr (pe_bmK K PySem.F.plainAttrs_list PySem.F.slot_list_append PySem.F.type_list_append mt_appendR (pv 1) (pa_cons (pe_ifExp (pt_val (pe_callB (callK rIsi K call_isi) rfl W.f_isinstance PyProof.Rows.Boot.«isinstance» (pa_cons (pv 2) (pa_cons (pe_bltn (v := .ty "tuple") rfl W.f_tuple PyProof.Rows.Boot.«tuple» rfl) pa_nil)))) (pe_callI (ok_name_text W) hr W.g_name_text passL (pa_cons (pv 2) pa_nil)) (pe_callTy call_str rfl W.f_str PyProof.Rows.Boot.«str» (pa_cons (pv 2) pa_nil))) pa_nil)))))
      (pss_one (ps_ret (pe_m1 PySem.F.slot_str_join PySem.F.type_str_join (mtK rJoin K mt_joinD) pe_str (pv 1) rfl))))), ?_⟩
  have hl3 : ps.length ≤ 3 := by
    have := (shapes_ok h1.sh).2.2.1
    rw [List.length_map] at this
    exact this
  simp only [Claim.D]
  try dsimp only [cxOf, Cx.blk, Cx.blkE]
  refine fs_one (Γ := ⟨K, E, CN K⟩) (M := Mode.no) ?_
  refine fs_new (N := cnS) ownS (fr_lstS ?_)
  repeat fail "f"
  refine ⟨[cw], rfl, by simp, fun q hq => ?_⟩
  refine fs_seq (fs_for (vs := [2]) ?_)
  repeat fail "w"
  refine ⟨fun i s1 c1 => (∃ x2, s1 = [some (.d (.tuple (.str cw :: ps.map fun p => p.1.D))), some (.r q), x2]) ∧ c1 = ((), cw :: (ps.take i).map fun p => partT p.1), ⟨⟨none, rfl⟩, rfl⟩, fun i d s1 c1 hi hI => ?_, fun s1 c1 hI => ?_⟩
  · obtain ⟨⟨x2, rfl⟩, rfl⟩ := hI
    rw [List.map_map, List.getElem?_map] at hi
    obtain ⟨p, hp, rfl⟩ := Option.map_eq_some_iff.mp hi
    have hpm : p ∈ ps := List.mem_of_getElem? hp
    have hnum := h2 p hpm
    have hok := (h1.parts p hpm).1
    have htk : (ps.take (i + 1)).map (fun p => partT p.1) = (ps.take i).map (fun p => partT p.1) ++ [partT p.1] := by
      rw [List.take_add_one, hp, List.map_append]
      rfl
    have htl : (cw :: (ps.take i).map fun p => partT p.1).length ≤ 1000 := by
      simp
      omega
    refine ⟨_, tgt_name (by decide), ?_⟩
    refine fs_bm hq rfl (fa_lift0 ?_)
    obtain ⟨pp, ps2⟩ := p
    cases pp with
    | nm g =>
      simp only [Function.comp, Part.D]
      repeat fail "w"
      refine ⟨⟨hok, hnum⟩, ?_⟩
      repeat fail "w"
      refine ⟨_, ch_appS htl, ⟨_, rfl⟩, ?_⟩
      rw [htk]
      rfl
    | nu n =>
      simp only [Function.comp, Part.D]
      repeat fail "w"
      refine rc_strN hnum ?_
      repeat fail "w"
      refine ⟨_, ch_appS htl, ⟨_, rfl⟩, ?_⟩
      rw [htk]
      rfl
  · obtain ⟨⟨x2, rfl⟩, rfl⟩ := hI
    have e0 : ps.take ((ps.map fun p => p.1.D).map Dv.d).length = ps := by
      rw [List.length_map, List.length_map, List.take_length]
    rw [e0]
    have kb : Str.length " " ≤ 1 := by decide +kernel
    have hjr := join_room (ws := shownC ⟨cw, ps⟩) (y := " ") h3 (by unfold shownC; simp; omega) kb
    refine fs_ret (wf_peek gf_no hq 1 rfl (wf_lift0 ?_))
    repeat fail "w"
    refine rt_join hjr ?_
    exact ⟨rfl, .inr ⟨_, rfl, rfl⟩⟩
end
end K84

/-! part K84D17 -/
set_option maxHeartbeats 1000000
/-! K84D17: the words of a drawn claim. -/
namespace K84
local macro_rules | `(tactic| fail "f") => `(tactic| (first | with_reducible refine fs_nx ?_ | with_reducible refine fs_ret ?_ | with_reducible refine fs_if ?_ | with_reducible refine ft_B ?_ | with_reducible refine ft_test ?_ | with_reducible refine ft_not ?_ | with_reducible refine wf_op ?_ | with_reducible refine wf_cb ?_ | with_reducible refine wf_tup ?_ | with_reducible refine fa_cons ?_ | with_reducible refine fa_nil ?_ | with_reducible refine wf_vr (by with_unfolding_all rfl) ?_ | with_reducible refine wf_in ?_ | with_reducible refine wf_st ?_ | with_reducible refine wf_b ?_ | with_reducible refine wf_nn ?_ | fail "w"))
local macro_rules | `(tactic| fail "w") => `(tactic| (first | with_reducible refine wp_neg ?_ | with_reducible refine wp_pick ?_ | with_reducible refine wp_draw ?_ | with_reducible refine ws_seq ?_ | with_reducible refine ws_nx ?_ | with_reducible refine ws_set ?_ | with_reducible refine ws_ret ?_ | with_reducible refine ws_if ?_ | with_reducible refine ws_drop ?_ | with_reducible refine wt_or ?_ | with_reducible refine wt_and ?_ | with_reducible refine wt_not ?_ | with_reducible refine wt_B ?_ | with_reducible refine wt_test ?_ | with_reducible refine wp_chain ?_ | with_reducible refine wp_andV ?_ | with_reducible refine wp_orV ?_ | with_reducible refine wp_notV ?_ | with_reducible refine wp_if ?_ | with_reducible refine wp_int ?_ | with_reducible refine wp_var (by with_unfolding_all rfl) ?_ | with_reducible refine wp_str ?_ | with_reducible refine wp_bl ?_ | with_reducible refine wp_non ?_ | with_reducible refine wp_ref ?_ | with_reducible refine wp_op ?_ | with_reducible refine wp_tup' ?_ | with_reducible refine wp_lst' ?_ | with_reducible refine wa_cons ?_ | with_reducible refine wa_nil ?_ | with_reducible refine wp_sl ?_ | with_reducible refine wo_none ?_ | with_reducible refine wo_some ?_ | with_reducible refine wp_isi' (by simp) ?_ | with_reducible refine wp_allIn (by with_unfolding_all rfl) (by assumption) (by with_unfolding_all exact of_decide_eq_true rfl) (by with_unfolding_all rfl) ?_ | with_reducible refine wp_cb ?_ | with_reducible refine wp_m1 ?_ | with_reducible refine rs_T1 ?_ | with_reducible refine rs_T' (by with_unfolding_all rfl) (by with_unfolding_all rfl) ?_ | with_reducible refine wi_list ?_ | with_reducible refine wi_tup ?_ | with_reducible refine wi_str ?_ | with_reducible refine wi_rng1 ?_ | with_reducible refine wi_rng2 ?_ | with_reducible refine wi_zipT ?_ | with_reducible refine wi_zipM ?_ | with_reducible refine wi_enum ?_ | with_reducible refine rd_ib ?_ | with_reducible refine rd_ii ?_ | with_reducible refine rd_inSg ?_ | with_reducible refine rd_mod (by first | assumption | decide) ?_ | with_reducible refine rd_mul (cmul_r (by decide +kernel)) ?_ | with_reducible refine rd_mul (cmul_l (by decide +kernel)) ?_ | with_reducible refine rc_max ?_ | with_reducible refine rc_min ?_ | with_reducible refine rd_eqI ?_ | with_reducible refine rd_neI ?_ | with_reducible refine rd_eqS (by first | assumption | decide +kernel) (by first | assumption | decide +kernel) ?_ | with_reducible refine rd_neS (by first | assumption | decide +kernel) (by first | assumption | decide +kernel) ?_ | with_reducible refine rd_iC (cpow_ok (by with_unfolding_all rfl)) ?_ | with_reducible refine rd_isN' (b := true) (by with_unfolding_all rfl) ?_ | with_reducible refine rd_isN' (b := false) (by with_unfolding_all rfl) ?_ | with_reducible refine rd_notN' (b := true) (by with_unfolding_all rfl) ?_ | with_reducible refine rd_notN' (b := false) (by with_unfolding_all rfl) ?_ | with_reducible refine rc_len (by first | assumption | with_unfolding_all rfl) ?_ | with_reducible refine rd_ixT0 ?_ | with_reducible refine rd_ixL0 ?_ | with_reducible refine rd_ixT (by first | assumption | with_unfolding_all rfl) ?_ | with_reducible refine rd_ixL (by first | assumption | with_unfolding_all rfl) ?_ | with_reducible refine wp_callF ?_ | with_reducible refine rc_tupL ?_ | with_reducible refine rc_strS ?_ | with_reducible refine rc_all ?_ | with_reducible refine L2.iteT ?_ | with_reducible refine ite_dT (by with_unfolding_all exact of_decide_eq_true rfl) ?_ | with_reducible refine ite_dF (by with_unfolding_all exact of_decide_eq_false rfl) ?_ | with_reducible refine ite_ndT (by with_unfolding_all exact of_decide_eq_true rfl) ?_ | with_reducible refine ite_ndF (by with_unfolding_all exact of_decide_eq_false rfl) ?_ | with_reducible refine L2.iteF ?_ | with_reducible refine ite_nt ?_ | with_reducible refine ite_nf ?_ | refine ⟨_, true, rfl, rfl, ?_⟩ | refine ⟨_, false, rfl, rfl, ?_⟩ | with_reducible refine ⟨_, rfl, ?_⟩ | with_reducible refine ⟨_, _, rfl, ?_⟩ | with_reducible refine And.intro (by first | assumption | exact trivial | with_unfolding_all exact of_decide_eq_true rfl) ?_ | with_reducible refine And.intro Mode.Sub.no ?_ | with_reducible refine ⟨_, (by with_unfolding_all rfl), (by with_unfolding_all exact of_decide_eq_true rfl), ?_⟩))
open PySem PySem.Spec PyProof.Rows L2
section
variable {P : Program} {w : World} {K : PySem.W.Frag} {mg : Str → Option Value} {base : Heap}
def lawT (p : Nm) : Str := Txt.join "." [p.1, p.2.1, numT p.2.2]
def lawP : Part → Str
  | .nm p => lawT p
  | .nu i => numT i
theorem bi30 {i : Int} (h0 : 0 ≤ i) (h1 : i < 10 ^ 30) : Bi i := ⟨h0, Int.lt_trans h1 (by decide +kernel)⟩
abbrev N_law_claim_words : List Str := ["_law_claim_here", "_law_words", "_law_part"]
abbrev P_law_claim_words : List Str := ["_law_claim_here"]
theorem sc_law_claim_words : FnScope N_law_claim_words P_law_claim_words (defScope s_law_claim_words) := ⟨rfl, rfl, rfl, by decide +kernel, rfl, by decide +kernel, by decide +kernel⟩
abbrev sp_law_claim_words (K : PySem.W.Frag) : Sp := spD K (CN K) (fun _ => Mode.no) (fun c : Str × List Part => [.d (.tuple (.str c.1 :: c.2.map Part.D))]) (fun c => CParts c.1 c.2) (fun c y => y = .list ((c.1 :: c.2.map lawP).map PyData.str)) (fun _ => False)
theorem ok_law_claim_words (W : Wd w K mg) : FnI P w K mg base 2 (He.ga K "_law_claim_words") (sp_law_claim_words K) := by
  obtain ⟨fd, F⟩ := W.fd_law_claim_words
  refine FnI.of F sc_law_claim_words (fun _ _ _ _ _ _ us hl => match us, hl with | [_], _ => rfl) (fun _ _ => rfl) fun cdv A outer s H E hr ⟨cw, ps⟩ h => ⟨_, (pss_cons (ps_set (i := 1) sc_law_claim_words.nd rfl (Or.inl rfl) (pe_lst (pa_cons (pe_ix (ixK rIxT K ix_tup) (pv 0) pe_int (fun _ _ => rfl)) pa_nil)))
      (pss_cons (ps_for (passes_of rfl) rfl (pi_tup (pe_slice (slK rSlT K sl_tup) (pv 0) (po_some pe_int) po_none)) (pg_name (i := 2) sc_law_claim_words.nd rfl (Or.inl rfl)) (pss_one (ps_if (pt_val (pe_callB (callK rIsi K call_isi) rfl W.f_isinstance PyProof.Rows.Boot.«isinstance» (pa_cons (pv 2) (pa_cons (pe_bltn (v := .ty "tuple") rfl W.f_tuple PyProof.Rows.Boot.«tuple» rfl) pa_nil)))) (pss_one (ps_expr (pe_bmK K PySem.F.plainAttrs_list PySem.F.slot_list_append PySem.F.type_list_append mt_appendR (pv 1) (pa_cons (pe_callI (ok_law_name_text W) hr W.g_law_name_text passL (pa_cons (pv 2) pa_nil)) pa_nil)))) (pss_one (ps_expr (pe_bmK K PySem.F.plainAttrs_list PySem.F.slot_list_append PySem.F.type_list_append mt_appendR (pv 1) (pa_cons (pe_callTy call_str rfl W.f_str PyProof.Rows.Boot.«str» (pa_cons (pv 2) pa_nil)) pa_nil)))))))
      (pss_one (ps_ret (pv 1))))), ?_⟩
  have hl3 : ps.length ≤ 3 := h.hi
  have hgood : ∀ p ∈ ps, GoodP p := h.ok
  try dsimp only [cxOf, Cx.blk, Cx.blkE]
  refine fs_one (Γ := ⟨K, E, CN K⟩) (M := Mode.no) ?_
  refine fs_new (N := cnS) ownS (fr_lstS ?_)
  repeat fail "f"
  refine ⟨[cw], rfl, by simp, fun q hq => ?_⟩
  refine fs_seq (fs_for (vs := [2]) ?_)
  repeat fail "w"
  refine ⟨fun i s1 c1 => (∃ x2, s1 = [some (.d (.tuple (.str cw :: ps.map Part.D))), some (.r q), x2]) ∧ c1 = ((), cw :: (ps.take i).map lawP), ⟨⟨none, rfl⟩, rfl⟩, fun i d s1 c1 hi hI => ?_, fun s1 c1 hI => ?_⟩
  · obtain ⟨⟨x2, rfl⟩, rfl⟩ := hI
    rw [List.map_map, List.getElem?_map] at hi
    obtain ⟨p, hp, rfl⟩ := Option.map_eq_some_iff.mp hi
    have hpm : p ∈ ps := List.mem_of_getElem? hp
    have hgp := hgood p hpm
    have htk : (ps.take (i + 1)).map lawP = (ps.take i).map lawP ++ [lawP p] := by
      rw [List.take_add_one, hp, List.map_append]
      rfl
    have htl : (cw :: (ps.take i).map lawP).length ≤ 1000 := by
      simp
      omega
    refine ⟨_, tgt_name (by decide), ?_⟩
    refine fs_if (ft_lift0 ?_)
    cases p with
    | nm g =>
      have hok : NmOk g := ⟨wordB_Sm hgp.1.1, wordB_Sm hgp.1.2⟩
      have hbi : Bi g.2.2 := bi30 (by have := hgp.2.1; omega) hgp.2.2
      simp only [Function.comp, Part.D]
      repeat fail "w"
      refine fs_bm hq rfl (fa_lift0 ?_)
      repeat fail "w"
      refine ⟨⟨hok, hbi⟩, ?_⟩
      repeat fail "w"
      refine ⟨_, ch_appS htl, ⟨_, rfl⟩, ?_⟩
      rw [htk]
      rfl
    | nu n =>
      have hbi : Bi n := bi30 hgp.1 hgp.2
      simp only [Function.comp, Part.D]
      repeat fail "w"
      refine fs_bm hq rfl (fa_lift0 ?_)
      repeat fail "w"
      refine rc_strN hbi ?_
      repeat fail "w"
      refine ⟨_, ch_appS htl, ⟨_, rfl⟩, ?_⟩
      rw [htk]
      rfl
  · obtain ⟨⟨x2, rfl⟩, rfl⟩ := hI
    have e0 : ps.take ((ps.map Part.D).map Dv.d).length = ps := by
      rw [List.length_map, List.length_map, List.take_length]
    rw [e0]
    refine fs_ret (wf_vr rfl ?_)
    exact .inl ⟨rfl, _, rfl, rfl⟩
end
end K84

/-! part K84D15 -/
set_option maxHeartbeats 1000000
/-! K84D15: drawn deeds, letters. -/
namespace K84
local macro_rules | `(tactic| fail "w") => `(tactic| (first | with_reducible refine wp_neg ?_ | with_reducible refine wp_pick ?_ | with_reducible refine wp_draw ?_ | with_reducible refine ws_seq ?_ | with_reducible refine ws_nx ?_ | with_reducible refine ws_set ?_ | with_reducible refine ws_ret ?_ | with_reducible refine ws_if ?_ | with_reducible refine ws_drop ?_ | with_reducible refine wt_or ?_ | with_reducible refine wt_and ?_ | with_reducible refine wt_not ?_ | with_reducible refine wt_B ?_ | with_reducible refine wt_test ?_ | with_reducible refine wp_chain ?_ | with_reducible refine wp_andV ?_ | with_reducible refine wp_orV ?_ | with_reducible refine wp_notV ?_ | with_reducible refine wp_if ?_ | with_reducible refine wp_int ?_ | with_reducible refine wp_var (by with_unfolding_all rfl) ?_ | with_reducible refine wp_str ?_ | with_reducible refine wp_bl ?_ | with_reducible refine wp_non ?_ | with_reducible refine wp_ref ?_ | with_reducible refine wp_op ?_ | with_reducible refine wp_tup' ?_ | with_reducible refine wp_lst' ?_ | with_reducible refine wa_cons ?_ | with_reducible refine wa_nil ?_ | with_reducible refine wp_sl ?_ | with_reducible refine wo_none ?_ | with_reducible refine wo_some ?_ | with_reducible refine wp_isi' (by simp) ?_ | with_reducible refine wp_allIn (by with_unfolding_all rfl) (by assumption) (by with_unfolding_all exact of_decide_eq_true rfl) (by with_unfolding_all rfl) ?_ | with_reducible refine wp_cb ?_ | with_reducible refine wp_m1 ?_ | with_reducible refine rs_T1 ?_ | with_reducible refine rs_T' (by with_unfolding_all rfl) (by with_unfolding_all rfl) ?_ | with_reducible refine wi_list ?_ | with_reducible refine wi_tup ?_ | with_reducible refine wi_str ?_ | with_reducible refine wi_rng1 ?_ | with_reducible refine wi_rng2 ?_ | with_reducible refine wi_zipT ?_ | with_reducible refine wi_zipM ?_ | with_reducible refine wi_enum ?_ | with_reducible refine rd_ib ?_ | with_reducible refine rd_ii ?_ | with_reducible refine rd_inSg ?_ | with_reducible refine rd_mod (by first | assumption | decide) ?_ | with_reducible refine rd_mul (cmul_r (by decide +kernel)) ?_ | with_reducible refine rd_mul (cmul_l (by decide +kernel)) ?_ | with_reducible refine rc_max ?_ | with_reducible refine rc_min ?_ | with_reducible refine rd_eqI ?_ | with_reducible refine rd_neI ?_ | with_reducible refine rd_eqS (by first | assumption | decide +kernel) (by first | assumption | decide +kernel) ?_ | with_reducible refine rd_neS (by first | assumption | decide +kernel) (by first | assumption | decide +kernel) ?_ | with_reducible refine rd_iC (cpow_ok (by with_unfolding_all rfl)) ?_ | with_reducible refine rd_isN' (b := true) (by with_unfolding_all rfl) ?_ | with_reducible refine rd_isN' (b := false) (by with_unfolding_all rfl) ?_ | with_reducible refine rd_notN' (b := true) (by with_unfolding_all rfl) ?_ | with_reducible refine rd_notN' (b := false) (by with_unfolding_all rfl) ?_ | with_reducible refine rc_len (by first | assumption | with_unfolding_all rfl) ?_ | with_reducible refine rd_ixT0 ?_ | with_reducible refine rd_ixL0 ?_ | with_reducible refine rd_ixT (by first | assumption | with_unfolding_all rfl) ?_ | with_reducible refine rd_ixL (by first | assumption | with_unfolding_all rfl) ?_ | with_reducible refine wp_callF ?_ | with_reducible refine rc_tupL ?_ | with_reducible refine rc_strS ?_ | with_reducible refine rc_all ?_ | with_reducible refine L2.iteT ?_ | with_reducible refine ite_dT (by with_unfolding_all exact of_decide_eq_true rfl) ?_ | with_reducible refine ite_dF (by with_unfolding_all exact of_decide_eq_false rfl) ?_ | with_reducible refine ite_ndT (by with_unfolding_all exact of_decide_eq_true rfl) ?_ | with_reducible refine ite_ndF (by with_unfolding_all exact of_decide_eq_false rfl) ?_ | with_reducible refine L2.iteF ?_ | with_reducible refine ite_nt ?_ | with_reducible refine ite_nf ?_ | refine ⟨_, true, rfl, rfl, ?_⟩ | refine ⟨_, false, rfl, rfl, ?_⟩ | with_reducible refine ⟨_, rfl, ?_⟩ | with_reducible refine ⟨_, _, rfl, ?_⟩ | with_reducible refine And.intro (by first | assumption | exact trivial | with_unfolding_all exact of_decide_eq_true rfl) ?_ | with_reducible refine And.intro Mode.Sub.no ?_ | with_reducible refine ⟨_, (by with_unfolding_all rfl), (by with_unfolding_all exact of_decide_eq_true rfl), ?_⟩))
open PySem PySem.Spec PyProof.Rows L2
section
variable {P : Program} {w : World} {K : PySem.W.Frag} {mg : Str → Option Value} {base : Heap}
def GoodI : It2 → Prop
  | .s z => wordB z = true
  | .i n => 0 ≤ n ∧ n ≤ 11
structure DIts (its : List It2) : Prop where
  hd : ∃ z r, its = .s z :: r
  len : its.length ≤ 3
  ok : ∀ a ∈ its, GoodI a
abbrev N_law_deed : List Str := ["_law_left_here", "_law_c", "_law_p", "_law_word_here", "_law_house", "_law_some"]
abbrev P_law_deed : List Str := ["_law_left_here"]
theorem sc_law_deed : FnScope N_law_deed P_law_deed (defScope s_law_deed) := ⟨rfl, rfl, rfl, by decide +kernel, rfl, by decide +kernel, by decide +kernel⟩
abbrev sp_law_deed (K : PySem.W.Frag) : Sp := spW K (fun y => ∃ its : List It2, y = .tuple (its.map It2.D) ∧ DIts its)
theorem ok_law_deed (W : Wd w K mg) : FnI P w K mg base 3 (He.ga K "_law_deed") (sp_law_deed K) := by
  obtain ⟨fd, F⟩ := W.fd_law_deed
  refine FnI.of F sc_law_deed (fun _ _ _ _ _ _ us hl => match us, hl with | [_], _ => rfl) (fun _ _ => rfl) fun cdv A outer s H E hr l _ => ⟨_, (pss_cons (ps_set (i := 1) sc_law_deed.nd rfl (Or.inl rfl) (pe_callI (ok_law_pick W) hr W.g_law_pick passL (pa_cons (pv 0) (pa_cons pe_int pa_nil))))
      (pss_cons (ps_set (i := 2) sc_law_deed.nd rfl (Or.inl rfl) (pe_callI (ok_law_pick W) hr W.g_law_pick passL (pa_cons (pv 0) (pa_cons pe_int pa_nil))))
      (pss_cons (ps_set (i := 3) sc_law_deed.nd rfl (Or.inl rfl) (pe_callI (ok_law_word W) hr W.g_law_word passL (pa_cons (pv 0) pa_nil)))
      (pss_cons (ps_set (i := 4) sc_law_deed.nd rfl (Or.inl rfl) (pe_ix (ixK rIxL K ix_list) (pe_lst (pa_cons (pv 3) (pa_cons pe_str pa_nil))) (pe_callTy call_intB rfl W.f_int PyProof.Rows.Boot.«int» (pa_cons (pe_cmpR (opK rEqD K (op_eqD hr.units)) (pv 3) pe_str (nomark _)) pa_nil)) (fun _ _ => rfl)))
      (pss_cons (ps_set (i := 5) sc_law_deed.nd rfl (Or.inl rfl) (pe_lst (pa_cons (pe_tup (pa_cons pe_str pa_nil)) (pa_cons (pe_tup (pa_cons pe_str (pa_cons (pv 3) pa_nil))) (pa_cons (pe_tup (pa_cons pe_str (pa_cons (pv 1) (pa_cons (pv 2) pa_nil)))) (pa_cons (pe_tup (pa_cons pe_str (pa_cons (pv 1) pa_nil))) (pa_cons (pe_tup (pa_cons pe_str (pa_cons (pv 1) pa_nil))) (pa_cons (pe_tup (pa_cons pe_str (pa_cons (pv 1) (pa_cons (pv 4) pa_nil)))) pa_nil))))))))
      (pss_one (ps_ret (pe_ix (ixK rIxL K ix_list) (pe_op op_cat (pv 5) (pe_lst (pa_cons (pe_tup (pa_cons pe_str (pa_cons (pv 1) pa_nil))) (pa_cons (pe_tup (pa_cons pe_str pa_nil)) pa_nil)))) (pe_callI (ok_law_pick W) hr W.g_law_pick passL (pa_cons (pv 0) (pa_cons pe_int pa_nil))) (fun _ _ => rfl))))))))), ?_⟩
  try dsimp only [cxOf, Cx.blk, Cx.blkE]
  repeat fail "w"
  intro c c0 c1
  repeat fail "w"
  intro p p0 p1
  repeat fail "w"
  refine ⟨rfl, fun y ⟨z, ey, wz⟩ => ?_⟩
  subst ey
  have hzo := (wordB_Sm wz).ok
  have hbo : okS "bell" = true := by decide +kernel
  repeat fail "w"
  refine rc_intB ?_
  repeat fail "w"
  refine rd_ixN (by split <;> decide) (by split <;> simp) (fun y hy => ?_)
  obtain ⟨z2, rfl, w2⟩ : ∃ z2, y = PyData.str z2 ∧ wordB z2 = true := by
    simp only [List.mem_cons, List.not_mem_nil, or_false] at hy
    rcases hy with rfl | rfl
    · exact ⟨_, rfl, wz⟩
    · exact ⟨_, rfl, by decide +kernel⟩
  repeat fail "w"
  refine rd_catL (by rw [sizeLine_eq]; simp) ?_
  repeat fail "w"
  intro n n0 n1
  refine rd_ixN n0 (by simp; omega) (fun y hy => ?_)
  have c2 : 0 ≤ c ∧ c ≤ 11 := ⟨c0, by omega⟩
  have p2 : 0 ≤ p ∧ p ≤ 11 := ⟨p0, by omega⟩
  simp only [List.cons_append, List.nil_append, List.mem_cons, List.not_mem_nil, or_false] at hy
  have mk : ∀ its : List It2, y = .tuple (its.map It2.D) → DIts its → ∃ its : List It2, y = .tuple (its.map It2.D) ∧ DIts its := fun its h1 h2 => ⟨its, h1, h2⟩
  refine ⟨_, rfl, ?_⟩
  rcases hy with rfl | rfl | rfl | rfl | rfl | rfl | rfl | rfl
  · exact mk [.s "join"] rfl ⟨⟨_, _, rfl⟩, by simp, fun a ha => by simp at ha; subst ha; exact (by decide +kernel : wordB "join" = true)⟩
  · exact mk [.s "say", .s z] rfl ⟨⟨_, _, rfl⟩, by simp, fun a ha => by simp at ha; rcases ha with rfl | rfl; exact (by decide +kernel : wordB "say" = true); exact wz⟩
  · exact mk [.s "do", .i c, .i p] rfl ⟨⟨_, _, rfl⟩, by simp, fun a ha => by simp at ha; rcases ha with rfl | rfl | rfl; exact (by decide +kernel : wordB "do" = true); exact c2; exact p2⟩
  · exact mk [.s "free", .i c] rfl ⟨⟨_, _, rfl⟩, by simp, fun a ha => by simp at ha; rcases ha with rfl | rfl; exact (by decide +kernel : wordB "free" = true); exact c2⟩
  · exact mk [.s "ready", .i c] rfl ⟨⟨_, _, rfl⟩, by simp, fun a ha => by simp at ha; rcases ha with rfl | rfl; exact (by decide +kernel : wordB "ready" = true); exact c2⟩
  · exact mk [.s "hand", .i c, .s z2] rfl ⟨⟨_, _, rfl⟩, by simp, fun a ha => by simp at ha; rcases ha with rfl | rfl | rfl; exact (by decide +kernel : wordB "hand" = true); exact c2; exact w2⟩
  · exact mk [.s "quit", .i c] rfl ⟨⟨_, _, rfl⟩, by simp, fun a ha => by simp at ha; rcases ha with rfl | rfl; exact (by decide +kernel : wordB "quit" = true); exact c2⟩
  · exact mk [.s "note"] rfl ⟨⟨_, _, rfl⟩, by simp, fun a ha => by simp at ha; subst ha; exact (by decide +kernel : wordB "note" = true)⟩
end
end K84

/-! part K84D18 -/
set_option maxHeartbeats 1000000
/-! K84D18: the words of a drawn letter. -/
namespace K84
local macro_rules | `(tactic| fail "f") => `(tactic| (first | with_reducible refine fs_nx ?_ | with_reducible refine fs_ret ?_ | with_reducible refine fs_if ?_ | with_reducible refine ft_B ?_ | with_reducible refine ft_test ?_ | with_reducible refine ft_not ?_ | with_reducible refine wf_op ?_ | with_reducible refine wf_cb ?_ | with_reducible refine wf_tup ?_ | with_reducible refine fa_cons ?_ | with_reducible refine fa_nil ?_ | with_reducible refine wf_vr (by with_unfolding_all rfl) ?_ | with_reducible refine wf_in ?_ | with_reducible refine wf_st ?_ | with_reducible refine wf_b ?_ | with_reducible refine wf_nn ?_ | fail "w"))
local macro_rules | `(tactic| fail "w") => `(tactic| (first | with_reducible refine wp_neg ?_ | with_reducible refine wp_pick ?_ | with_reducible refine wp_draw ?_ | with_reducible refine ws_seq ?_ | with_reducible refine ws_nx ?_ | with_reducible refine ws_set ?_ | with_reducible refine ws_ret ?_ | with_reducible refine ws_if ?_ | with_reducible refine ws_drop ?_ | with_reducible refine wt_or ?_ | with_reducible refine wt_and ?_ | with_reducible refine wt_not ?_ | with_reducible refine wt_B ?_ | with_reducible refine wt_test ?_ | with_reducible refine wp_chain ?_ | with_reducible refine wp_andV ?_ | with_reducible refine wp_orV ?_ | with_reducible refine wp_notV ?_ | with_reducible refine wp_if ?_ | with_reducible refine wp_int ?_ | with_reducible refine wp_var (by with_unfolding_all rfl) ?_ | with_reducible refine wp_str ?_ | with_reducible refine wp_bl ?_ | with_reducible refine wp_non ?_ | with_reducible refine wp_ref ?_ | with_reducible refine wp_op ?_ | with_reducible refine wp_tup' ?_ | with_reducible refine wp_lst' ?_ | with_reducible refine wa_cons ?_ | with_reducible refine wa_nil ?_ | with_reducible refine wp_sl ?_ | with_reducible refine wo_none ?_ | with_reducible refine wo_some ?_ | with_reducible refine wp_isi' (by simp) ?_ | with_reducible refine wp_allIn (by with_unfolding_all rfl) (by assumption) (by with_unfolding_all exact of_decide_eq_true rfl) (by with_unfolding_all rfl) ?_ | with_reducible refine wp_cb ?_ | with_reducible refine wp_m1 ?_ | with_reducible refine rs_T1 ?_ | with_reducible refine rs_T' (by with_unfolding_all rfl) (by with_unfolding_all rfl) ?_ | with_reducible refine wi_list ?_ | with_reducible refine wi_tup ?_ | with_reducible refine wi_str ?_ | with_reducible refine wi_rng1 ?_ | with_reducible refine wi_rng2 ?_ | with_reducible refine wi_zipT ?_ | with_reducible refine wi_zipM ?_ | with_reducible refine wi_enum ?_ | with_reducible refine rd_ib ?_ | with_reducible refine rd_ii ?_ | with_reducible refine rd_inSg ?_ | with_reducible refine rd_mod (by first | assumption | decide) ?_ | with_reducible refine rd_mul (cmul_r (by decide +kernel)) ?_ | with_reducible refine rd_mul (cmul_l (by decide +kernel)) ?_ | with_reducible refine rc_max ?_ | with_reducible refine rc_min ?_ | with_reducible refine rd_eqI ?_ | with_reducible refine rd_neI ?_ | with_reducible refine rd_eqS (by first | assumption | decide +kernel) (by first | assumption | decide +kernel) ?_ | with_reducible refine rd_neS (by first | assumption | decide +kernel) (by first | assumption | decide +kernel) ?_ | with_reducible refine rd_iC (cpow_ok (by with_unfolding_all rfl)) ?_ | with_reducible refine rd_isN' (b := true) (by with_unfolding_all rfl) ?_ | with_reducible refine rd_isN' (b := false) (by with_unfolding_all rfl) ?_ | with_reducible refine rd_notN' (b := true) (by with_unfolding_all rfl) ?_ | with_reducible refine rd_notN' (b := false) (by with_unfolding_all rfl) ?_ | with_reducible refine rc_len (by first | assumption | with_unfolding_all rfl) ?_ | with_reducible refine rd_ixT0 ?_ | with_reducible refine rd_ixL0 ?_ | with_reducible refine rd_ixT (by first | assumption | with_unfolding_all rfl) ?_ | with_reducible refine rd_ixL (by first | assumption | with_unfolding_all rfl) ?_ | with_reducible refine wp_callF ?_ | with_reducible refine rc_tupL ?_ | with_reducible refine rc_strS ?_ | with_reducible refine rc_all ?_ | with_reducible refine L2.iteT ?_ | with_reducible refine ite_dT (by with_unfolding_all exact of_decide_eq_true rfl) ?_ | with_reducible refine ite_dF (by with_unfolding_all exact of_decide_eq_false rfl) ?_ | with_reducible refine ite_ndT (by with_unfolding_all exact of_decide_eq_true rfl) ?_ | with_reducible refine ite_ndF (by with_unfolding_all exact of_decide_eq_false rfl) ?_ | with_reducible refine L2.iteF ?_ | with_reducible refine ite_nt ?_ | with_reducible refine ite_nf ?_ | refine ⟨_, true, rfl, rfl, ?_⟩ | refine ⟨_, false, rfl, rfl, ?_⟩ | with_reducible refine ⟨_, rfl, ?_⟩ | with_reducible refine ⟨_, _, rfl, ?_⟩ | with_reducible refine And.intro (by first | assumption | exact trivial | with_unfolding_all exact of_decide_eq_true rfl) ?_ | with_reducible refine And.intro Mode.Sub.no ?_ | with_reducible refine ⟨_, (by with_unfolding_all rfl), (by with_unfolding_all exact of_decide_eq_true rfl), ?_⟩))
open PySem PySem.Spec PyProof.Rows L2
section
variable {P : Program} {w : World} {K : PySem.W.Frag} {mg : Str → Option Value} {base : Heap}
/-- a drawn letter -/
structure LL where
  name : Nm
  prev : Int
  gots : List Nm
  time : Int
  deed : List It2
def LL.D (l : LL) : PyData := .tuple [.str l.name.1, .str l.name.2.1, .int l.name.2.2, .int l.prev, .tuple (l.gots.map nameD), .int l.time, .tuple (l.deed.map It2.D)]
structure LL.Good (l : LL) : Prop where
  name : GoodN l.name
  prev : 0 ≤ l.prev ∧ l.prev < 10 ^ 30
  gots : ∀ g ∈ l.gots, GoodN g
  glen : l.gots.length ≤ 30
  time : 0 ≤ l.time ∧ l.time < 10 ^ 30
  deed : DIts l.deed
def lw1 (l : LL) : List Str := [l.name.1, l.name.2.1, numT l.name.2.2] ++ (if l.prev = 0 then [] else (["after", numT l.prev] : List Str))
def lw2 (l : LL) : List Str := if l.gots.length = 0 then lw1 l else (lw1 l ++ (["got"] : List Str)) ++ l.gots.map lawT
def lw3 (l : LL) : List Str := (lw2 l ++ (["at", numT l.time ++ ":"] : List Str)) ++ l.deed.map It2.T
def isHand : List It2 → Bool
  | .s z :: _ => decide (z = "hand")
  | _ => false
def lwords (l : LL) : List Str := if isHand l.deed = true then (lw3 l).take ((lw3 l).length - 1) ++ (["to"] : List Str) ++ (lw3 l).drop ((lw3 l).length - 1) else lw3 l
theorem lw1_len (l : LL) : 3 ≤ (lw1 l).length ∧ (lw1 l).length ≤ 5 := by
  unfold lw1
  rw [List.length_append]
  split <;> simp
theorem lw2_len {l : LL} (h : l.gots.length ≤ 30) : 3 ≤ (lw2 l).length ∧ (lw2 l).length ≤ 36 := by
  have := lw1_len l
  unfold lw2
  split
  · omega
  · rw [List.length_append, List.length_append, List.length_map]
    simp
    omega
theorem lw3_len {l : LL} (h : l.gots.length ≤ 30) (h2 : l.deed.length ≤ 3) : 5 ≤ (lw3 l).length ∧ (lw3 l).length ≤ 41 := by
  have := lw2_len h
  unfold lw3
  rw [List.length_append, List.length_append, List.length_map]
  simp
  omega
abbrev N_law_letter_words : List Str := ["_law_letter_here", "_law_house", "_law_deal", "_law_number_here", "_law_prev", "_law_gots", "_law_time", "_law_deed_here", "_law_words", "_law_name_here", "_law_part"]
abbrev P_law_letter_words : List Str := ["_law_letter_here"]
theorem sc_law_letter_words : FnScope N_law_letter_words P_law_letter_words (defScope s_law_letter_words) := ⟨rfl, rfl, rfl, by decide +kernel, rfl, by decide +kernel, by decide +kernel⟩
abbrev sp_law_letter_words (K : PySem.W.Frag) : Sp := spD K (CN K) (fun _ => Mode.no) (fun l : LL => [.d l.D]) LL.Good (fun l y => y = .list ((lwords l).map PyData.str)) (fun _ => False)
theorem GoodI.ok {a : It2} (h : GoodI a) : a.Ok := by
  cases a with
  | s z => exact wordB_Sm h
  | i n => exact bi30 h.1 (by have := h.2; omega)
theorem GoodN.ok {p : Nm} (h : GoodN p) : NmOk p ∧ Bi p.2.2 := ⟨⟨wordB_Sm h.1.1, wordB_Sm h.1.2⟩, bi30 (by have := h.2.1; omega) h.2.2⟩
theorem ok_law_letter_words (W : Wd w K mg) : FnI P w K mg base 2 (He.ga K "_law_letter_words") (sp_law_letter_words K) := by
  obtain ⟨fd, F⟩ := W.fd_law_letter_words
  refine FnI.of F sc_law_letter_words (fun _ _ _ _ _ _ us hl => match us, hl with | [_], _ => rfl) (fun _ _ => rfl) fun cdv A outer s H E hr ll hl => ⟨_, (pss_cons (ps_asg (pv 0) (pg_tupK 7 K rfl (pgs_cons (pg_name (i := 1) sc_law_letter_words.nd rfl (Or.inl rfl)) (pgs_cons (pg_name (i := 2) sc_law_letter_words.nd rfl (Or.inl rfl)) (pgs_cons (pg_name (i := 3) sc_law_letter_words.nd rfl (Or.inl rfl)) (pgs_cons (pg_name (i := 4) sc_law_letter_words.nd rfl (Or.inl rfl)) (pgs_cons (pg_name (i := 5) sc_law_letter_words.nd rfl (Or.inl rfl)) (pgs_cons (pg_name (i := 6) sc_law_letter_words.nd rfl (Or.inl rfl)) (pgs_cons (pg_name (i := 7) sc_law_letter_words.nd rfl (Or.inl rfl)) pgs_nil)))))))))
      (pss_cons (ps_set (i := 8) sc_law_letter_words.nd rfl (Or.inl rfl) (pe_lst (pa_cons (pv 1) (pa_cons (pv 2) (pa_cons (pe_callTy call_str rfl W.f_str PyProof.Rows.Boot.«str» (pa_cons (pv 3) pa_nil)) pa_nil)))))
      (pss_cons (ps_if (pt_cmpR (opK rNeD K (op_neD hr.units)) (pv 4) pe_int (nomark _)) (pss_one (ps_set (i := 8) sc_law_letter_words.nd rfl (Or.inl rfl) (pe_op op_cat (pv 8) (pe_lst (pa_cons pe_str (pa_cons (pe_callTy call_str rfl W.f_str PyProof.Rows.Boot.«str» (pa_cons (pv 4) pa_nil)) pa_nil)))))) pss_nil)
      (pss_cons (ps_if (pt_cmpR (opK rNeD K (op_neD hr.units)) (pv 5) (pe_tup pa_nil) (nomark _)) (pss_one (ps_set (i := 8) sc_law_letter_words.nd rfl (Or.inl rfl) (pe_op op_cat (pe_op op_cat (pv 8) (pe_lst (pa_cons pe_str pa_nil))) (pe_lc (own := [("_law_name_here", 9)]) (g := gName 9) (tt := tYes) rfl sc_law_letter_words.nd (pi_tup (pv 5)) (blkOk_by (own := [("_law_name_here", 9)]) (N := N_law_letter_words) (sc := defScope s_law_letter_words) (by decide +kernel)) (fun _ _ _ _ _ => (pg_name (i := 9) sc_law_letter_words.nd rfl (Or.inl rfl))) (fun _ _ _ _ _ => pts_nil) (fun _ _ _ _ _ => (pe_callI (ok_law_name_text W) hr W.g_law_name_text passL (pa_cons (pv 9) pa_nil))))))) pss_nil)
      (pss_cons (ps_set (i := 8) sc_law_letter_words.nd rfl (Or.inl rfl) (pe_op op_cat (pe_op op_cat (pv 8) (pe_lst (pa_cons pe_str (pa_cons (pe_op op_catS (pe_callTy call_str rfl W.f_str PyProof.Rows.Boot.«str» (pa_cons (pv 6) pa_nil)) pe_str) pa_nil)))) (pe_lc (own := [("_law_part", 10)]) (g := gName 10) (tt := tYes) rfl sc_law_letter_words.nd (pi_tup (pv 7)) (blkOk_by (own := [("_law_part", 10)]) (N := N_law_letter_words) (sc := defScope s_law_letter_words) (by decide +kernel)) (fun _ _ _ _ _ => (pg_name (i := 10) sc_law_letter_words.nd rfl (Or.inl rfl))) (fun _ _ _ _ _ => pts_nil) (fun _ _ _ _ _ => (pe_callTy call_str rfl W.f_str PyProof.Rows.Boot.«str» (pa_cons (pv 10) pa_nil))))))
      (pss_cons (ps_if (pt_cmpR (opK rEqD K (op_eqD hr.units)) (pe_ix (ixK rIxT K ix_tup) (pv 7) pe_int (fun _ _ => rfl)) pe_str (nomark _)) (pss_one (ps_expr (pe_bmK K PySem.F.plainAttrs_list PySem.F.slot_list_insert PySem.F.type_list_insert mt_insL (pv 8) (pa_cons (pe_op op_sub (pe_callB (callK rLenD K call_lenD2) rfl W.f_len PyProof.Rows.Boot.«len» (pa_cons (pv 8) pa_nil)) pe_int) (pa_cons pe_str pa_nil))))) pss_nil)
      (pss_one (ps_ret (pv 8))))))))), ?_⟩
  obtain ⟨⟨a, b, n⟩, pr, gs, tm, its⟩ := ll
  have hgs : ∀ g ∈ gs, GoodN g := hl.gots
  have hgl : gs.length ≤ 30 := hl.glen
  obtain ⟨zd, rd, hits⟩ := hl.deed.hd
  have hits : its = .s zd :: rd := hits
  have hdl : its.length ≤ 3 := hl.deed.len
  have hdo : ∀ a ∈ its, GoodI a := hl.deed.ok
  have b1 : Bi n := hl.name.ok.2
  have b2 : Bi pr := bi30 hl.prev.1 hl.prev.2
  have b3 : Bi tm := bi30 hl.time.1 hl.time.2
  have k1 : (numT tm).length ≤ 500 := (numT_Sm b3).len
  have kd : Str.length ":" = 1 := by decide +kernel
  simp only [LL.D]
  try dsimp only [cxOf, Cx.blk, Cx.blkE]
  refine fs_one (Γ := ⟨K, E, CN K⟩) (M := Mode.no) ?_
  refine fs_seq (fs_lift0 ?_)
  refine ws_unp (.cons _ (.cons _ (.cons _ (.cons _ (.cons _ (.cons _ (.cons _ .nil))))))) ?_
  repeat fail "w"
  refine fs_seq (fs_lift0 ?_)
  repeat fail "w"
  refine rc_strN b1 ?_
  repeat fail "w"
  have hlok : ∀ g ∈ gs, NmOk g := fun g hg => (hgs g hg).ok.1
  let st : List Str → Sd := fun ws => [some (.d (.tuple [.str a, .str b, .int n, .int pr, .tuple (gs.map nameD), .int tm, .tuple (its.map It2.D)])), some (.d (.str a)), some (.d (.str b)), some (.d (.int n)), some (.d (.int pr)), some (.d (.tuple (gs.map nameD))), some (.d (.int tm)), some (.d (.tuple (its.map It2.D))), some (.d (.list (ws.map PyData.str))), none, none]
  refine fs_mid2 (st (lw1 ⟨(a, b, n), pr, gs, tm, its⟩)) () (fs_if (ft_lift0 ?_)) ?_
  · repeat fail "w"
    refine b_ifn (fun h => ?_) (fun h => ?_)
    · refine fs_nx ⟨?_, rfl⟩
      have e1 : lw1 ⟨(a, b, n), pr, gs, tm, its⟩ = [a, b, numT n] := by
        unfold lw1
        rw [if_pos h]
        rfl
      rw [e1]
      with_unfolding_all rfl
    · refine fs_lift0 ?_
      repeat fail "w"
      refine rc_strN b2 ?_
      repeat fail "w"
      refine rd_catW [a, b, numT n] ["after", numT pr] rfl rfl (by simp) ?_
      refine ⟨?_, rfl⟩
      have e1 : lw1 ⟨(a, b, n), pr, gs, tm, its⟩ = [a, b, numT n] ++ (["after", numT pr] : List Str) := by
        unfold lw1
        rw [if_neg h]
      rw [e1]
      with_unfolding_all rfl
  have hw1 := lw1_len ⟨(a, b, n), pr, gs, tm, its⟩
  have hw2 := lw2_len (l := ⟨(a, b, n), pr, gs, tm, its⟩) hgl
  have hw3 := lw3_len (l := ⟨(a, b, n), pr, gs, tm, its⟩) hgl hdl
  refine fs_mid2 (st (lw2 ⟨(a, b, n), pr, gs, tm, its⟩)) () (fs_if (ft_lift0 ?_)) ?_
  · repeat fail "w"
    refine rd_neT0 hlok ?_
    repeat fail "w"
    refine b_ifn (fun h => ?_) (fun h => ?_)
    · refine fs_nx ⟨?_, rfl⟩
      have e1 : lw2 ⟨(a, b, n), pr, gs, tm, its⟩ = lw1 ⟨(a, b, n), pr, gs, tm, its⟩ := if_pos h
      rw [e1]
    · refine fs_lift0 ?_
      repeat fail "w"
      refine rd_catW (lw1 ⟨(a, b, n), pr, gs, tm, its⟩) ["got"] rfl rfl (by simp; omega) ?_
      repeat fail "w"
      refine wp_lcG (γ := Nm) nameD (fun a => .str (lawT a)) nameD_inj ?_
      repeat fail "w"
      refine ⟨gs, by rw [List.map_map]; rfl, by omega, fun c hc => ⟨_, tgt_name (by decide), ?_⟩, ?_⟩
      · obtain ⟨q1, q2⟩ := (hgs c hc).ok
        repeat fail "w"
        refine ⟨⟨q1, q2⟩, ?_⟩
        repeat fail "w"
        rfl
      · repeat fail "w"
        have e : gs.map (fun a => PyData.str (lawT a)) = (gs.map lawT).map PyData.str := by rw [List.map_map]; rfl
        rw [e]
        refine rd_catW _ (gs.map lawT) rfl rfl (by rw [List.length_append, List.length_map]; simp; omega) ?_
        refine ⟨?_, rfl⟩
        have e1 : lw2 ⟨(a, b, n), pr, gs, tm, its⟩ = (lw1 ⟨(a, b, n), pr, gs, tm, its⟩ ++ (["got"] : List Str)) ++ gs.map lawT := if_neg h
        rw [e1]
        rfl
  refine fs_new (N := cnS) ownS (fr_catS (wf_lift0 ?_))
  repeat fail "w"
  refine rc_strN b3 ?_
  repeat fail "w"
  refine rd_catS (by simp only [len_app, sizeLine_eq]; omega) ?_
  repeat fail "w"
  refine rd_catW (lw2 ⟨(a, b, n), pr, gs, tm, its⟩) ["at", numT tm ++ ":"] rfl rfl (by simp; omega) ?_
  refine wf_lift0 ?_
  refine wp_lcG (γ := It2) It2.D (fun a => .str a.T) It2.D_inj ?_
  repeat fail "w"
  refine ⟨its, by rw [List.map_map]; rfl, by omega, fun c hc => ⟨_, tgt_name (by decide), ?_⟩, ?_⟩
  · have hok := (hdo c hc).ok
    repeat fail "w"
    refine rc_str2 hok ?_
    repeat fail "w"
    rfl
  have e3 : its.map (fun a => PyData.str a.T) = (its.map It2.T).map PyData.str := by rw [List.map_map]; rfl
  refine ⟨_, its.map It2.T, rfl, by rw [e3], by rw [List.length_append, List.length_map]; simp; omega, fun q hq => ?_⟩
  have eW : (lw2 ⟨(a, b, n), pr, gs, tm, its⟩ ++ (["at", numT tm ++ ":"] : List Str)) ++ its.map It2.T = lw3 ⟨(a, b, n), pr, gs, tm, its⟩ := rfl
  rw [eW]
  have hzd : okS zd = true := by
    have : GoodI (.s zd) := hdo _ (by rw [hits]; exact List.mem_cons_self)
    exact (wordB_Sm this).ok
  have hH : isHand its = decide (zd = "hand") := by rw [hits]; rfl
  have hL : lwords ⟨(a, b, n), pr, gs, tm, its⟩ = if isHand its = true then (lw3 ⟨(a, b, n), pr, gs, tm, its⟩).take ((lw3 ⟨(a, b, n), pr, gs, tm, its⟩).length - 1) ++ (["to"] : List Str) ++ (lw3 ⟨(a, b, n), pr, gs, tm, its⟩).drop ((lw3 ⟨(a, b, n), pr, gs, tm, its⟩).length - 1) else lw3 ⟨(a, b, n), pr, gs, tm, its⟩ := rfl
  rw [hL, hH]
  generalize lw3 ⟨(a, b, n), pr, gs, tm, its⟩ = W3 at *
  refine fs_mid ((), if decide (zd = "hand") = true then W3.take (W3.length - 1) ++ (["to"] : List Str) ++ W3.drop (W3.length - 1) else W3) (fs_if (ft_lift0 ?_)) (fs_ret (wf_vr rfl (.inl ⟨rfl, _, rfl, rfl⟩)))
  repeat fail "w"
  refine rd_ixT (atI_map (n := 0) (x := .s zd) (by rw [hits]; rfl)) ?_
  repeat fail "w"
  refine rd_eqS hzd (by decide +kernel) ?_
  refine ⟨_, rfl, ?_⟩
  refine b_if2 (fun h => ?_) (fun h => ?_)
  · refine fs_bm2 hq rfl (fa_cons (wf_peek gf_no hq 8 rfl (wf_lift0 ?_)))
    repeat fail "w"
    repeat fail "f"
    have hn : (((W3.map PyData.str).length : Int) - 1).toNat = W3.length - 1 := by rw [List.length_map]; omega
    have hm : (W3.map PyData.str).length = W3.length := List.length_map ..
    refine ⟨_, ch_insS (by show W3.length ≤ 1000; omega) (by rw [hm]; omega) (by rw [hm]; omega), rfl, ?_⟩
    rw [hn, if_pos (by simp [h])]
  · exact fs_nx ⟨rfl, by rw [if_neg (by simp [h])]⟩
end
end K84

/-! part K84D19 -/
set_option maxHeartbeats 1000000
/-! K84D19: the text of drawn words. -/
namespace K84
local macro_rules | `(tactic| fail "w") => `(tactic| (first | with_reducible refine wp_neg ?_ | with_reducible refine wp_pick ?_ | with_reducible refine wp_draw ?_ | with_reducible refine ws_seq ?_ | with_reducible refine ws_nx ?_ | with_reducible refine ws_set ?_ | with_reducible refine ws_ret ?_ | with_reducible refine ws_if ?_ | with_reducible refine ws_drop ?_ | with_reducible refine wt_or ?_ | with_reducible refine wt_and ?_ | with_reducible refine wt_not ?_ | with_reducible refine wt_B ?_ | with_reducible refine wt_test ?_ | with_reducible refine wp_chain ?_ | with_reducible refine wp_andV ?_ | with_reducible refine wp_orV ?_ | with_reducible refine wp_notV ?_ | with_reducible refine wp_if ?_ | with_reducible refine wp_int ?_ | with_reducible refine wp_var (by with_unfolding_all rfl) ?_ | with_reducible refine wp_str ?_ | with_reducible refine wp_bl ?_ | with_reducible refine wp_non ?_ | with_reducible refine wp_ref ?_ | with_reducible refine wp_op ?_ | with_reducible refine wp_tup' ?_ | with_reducible refine wp_lst' ?_ | with_reducible refine wa_cons ?_ | with_reducible refine wa_nil ?_ | with_reducible refine wp_sl ?_ | with_reducible refine wo_none ?_ | with_reducible refine wo_some ?_ | with_reducible refine wp_isi' (by simp) ?_ | with_reducible refine wp_allIn (by with_unfolding_all rfl) (by assumption) (by with_unfolding_all exact of_decide_eq_true rfl) (by with_unfolding_all rfl) ?_ | with_reducible refine wp_cb ?_ | with_reducible refine wp_m1 ?_ | with_reducible refine rs_T1 ?_ | with_reducible refine rs_T' (by with_unfolding_all rfl) (by with_unfolding_all rfl) ?_ | with_reducible refine wi_list ?_ | with_reducible refine wi_tup ?_ | with_reducible refine wi_str ?_ | with_reducible refine wi_rng1 ?_ | with_reducible refine wi_rng2 ?_ | with_reducible refine wi_zipT ?_ | with_reducible refine wi_zipM ?_ | with_reducible refine wi_enum ?_ | with_reducible refine rd_ib ?_ | with_reducible refine rd_ii ?_ | with_reducible refine rd_inSg ?_ | with_reducible refine rd_mod (by first | assumption | decide) ?_ | with_reducible refine rd_mul (cmul_r (by decide +kernel)) ?_ | with_reducible refine rd_mul (cmul_l (by decide +kernel)) ?_ | with_reducible refine rc_max ?_ | with_reducible refine rc_min ?_ | with_reducible refine rd_eqI ?_ | with_reducible refine rd_neI ?_ | with_reducible refine rd_eqS (by first | assumption | decide +kernel) (by first | assumption | decide +kernel) ?_ | with_reducible refine rd_neS (by first | assumption | decide +kernel) (by first | assumption | decide +kernel) ?_ | with_reducible refine rd_iC (cpow_ok (by with_unfolding_all rfl)) ?_ | with_reducible refine rd_isN' (b := true) (by with_unfolding_all rfl) ?_ | with_reducible refine rd_isN' (b := false) (by with_unfolding_all rfl) ?_ | with_reducible refine rd_notN' (b := true) (by with_unfolding_all rfl) ?_ | with_reducible refine rd_notN' (b := false) (by with_unfolding_all rfl) ?_ | with_reducible refine rc_len (by first | assumption | with_unfolding_all rfl) ?_ | with_reducible refine rd_ixT0 ?_ | with_reducible refine rd_ixL0 ?_ | with_reducible refine rd_ixT (by first | assumption | with_unfolding_all rfl) ?_ | with_reducible refine rd_ixL (by first | assumption | with_unfolding_all rfl) ?_ | with_reducible refine wp_callF ?_ | with_reducible refine rc_tupL ?_ | with_reducible refine rc_strS ?_ | with_reducible refine rc_all ?_ | with_reducible refine L2.iteT ?_ | with_reducible refine ite_dT (by with_unfolding_all exact of_decide_eq_true rfl) ?_ | with_reducible refine ite_dF (by with_unfolding_all exact of_decide_eq_false rfl) ?_ | with_reducible refine ite_ndT (by with_unfolding_all exact of_decide_eq_true rfl) ?_ | with_reducible refine ite_ndF (by with_unfolding_all exact of_decide_eq_false rfl) ?_ | with_reducible refine L2.iteF ?_ | with_reducible refine ite_nt ?_ | with_reducible refine ite_nf ?_ | refine ⟨_, true, rfl, rfl, ?_⟩ | refine ⟨_, false, rfl, rfl, ?_⟩ | with_reducible refine ⟨_, rfl, ?_⟩ | with_reducible refine ⟨_, _, rfl, ?_⟩ | with_reducible refine And.intro (by first | assumption | exact trivial | with_unfolding_all exact of_decide_eq_true rfl) ?_ | with_reducible refine And.intro Mode.Sub.no ?_ | with_reducible refine ⟨_, (by with_unfolding_all rfl), (by with_unfolding_all exact of_decide_eq_true rfl), ?_⟩))
open PySem PySem.Spec PyProof.Rows L2
section
variable {P : Program} {w : World} {K : PySem.W.Frag} {mg : Str → Option Value} {base : Heap}
def blanks (n : Nat) : List Nat := List.replicate n 32
/-- texts of blanks and these words: the first words.. -/
inductive Txd : List Str → List Nat → Prop
  | nil (n : Nat) : Txd [] (blanks n)
  | snoc {ws : List Str} {l : List Nat} {z : Str} {n : Nat} : Txd ws l → (ws = [] ∨ 1 ≤ n) → Txd (ws ++ [z]) (l ++ blanks n ++ TL.tl z)
abbrev N_law_text : List Str := ["_law_left_here", "_law_words", "_law_text_here", "_law_k", "_law_word_here"]
abbrev P_law_text : List Str := ["_law_left_here", "_law_words"]
theorem sc_law_text : FnScope N_law_text P_law_text (defScope s_law_text) := ⟨rfl, rfl, rfl, by decide +kernel, rfl, by decide +kernel, by decide +kernel⟩
/-- a word as it may stand in a text -/
structure GW (z : Str) : Prop where
  len : z.length ≤ 60
  ne : z ≠ ""
  ok : okS z = true
  nb : 32 ∉ TL.tl z
abbrev sp_law_text (K : PySem.W.Frag) : Sp := spD K (CN K) (fun p : Addr × List Str => Mode.draws p.1) (fun p => [.r p.1, .d (.list (p.2.map PyData.str))]) (fun p => p.2.length ≤ 60 ∧ ∀ z ∈ p.2, GW z)
  (fun p y => ∃ z l n, y = .str z ∧ Txd p.2 l ∧ TL.tl z = l ++ blanks n ∧ z.length ≤ 90000) (fun _ => False)
theorem ok_law_text (W : Wd w K mg) : FnI P w K mg base 2 (He.ga K "_law_text") (sp_law_text K) := by
  obtain ⟨fd, F⟩ := W.fd_law_text
  refine FnI.of F sc_law_text (fun _ _ _ _ _ _ us hl => match us, hl with | [_, _], _ => rfl) (fun _ _ => rfl) fun cdv A outer s H E hr ⟨l, ws⟩ ⟨hl, hw⟩ => ⟨_, (pss_cons (ps_set (i := 2) sc_law_text.nd rfl (Or.inl rfl) (pe_op op_mulS pe_str (pe_ix (ixK rIxL K ix_list) (pe_lst (pa_cons pe_int (pa_cons pe_int (pa_cons pe_int (pa_cons pe_int pa_nil))))) (pe_callI (ok_law_pick W) hr W.g_law_pick passL (pa_cons (pv 0) (pa_cons pe_int pa_nil))) (fun _ _ => rfl))))
      (pss_cons (ps_for (passes_of rfl) rfl (pi_enum rfl W.f_enumerate (pa_cons (pv 1) pa_nil)) (pg_tupK 2 K rfl (pgs_cons (pg_name (i := 3) sc_law_text.nd rfl (Or.inl rfl)) (pgs_cons (pg_name (i := 4) sc_law_text.nd rfl (Or.inl rfl)) pgs_nil))) (pss_one (ps_set (i := 2) sc_law_text.nd rfl (Or.inl rfl) (pe_op op_catS (pe_op op_catS (pv 2) (pe_op op_mulS pe_str (pe_op op_mul (pe_callTy call_intB rfl W.f_int PyProof.Rows.Boot.«int» (pa_cons (pe_cmpR op_gt (pv 3) pe_int (nomark _)) pa_nil)) (pe_ix (ixK rIxL K ix_list) (pe_lst (pa_cons pe_int (pa_cons pe_int (pa_cons pe_int (pa_cons pe_int pa_nil))))) (pe_callI (ok_law_pick W) hr W.g_law_pick passL (pa_cons (pv 0) (pa_cons pe_int pa_nil))) (fun _ _ => rfl))))) (pv 4)))))
      (pss_one (ps_ret (pe_op op_catS (pv 2) (pe_op op_mulS pe_str (pe_ix (ixK rIxL K ix_list) (pe_lst (pa_cons pe_int (pa_cons pe_int (pa_cons pe_int (pa_cons pe_int pa_nil))))) (pe_callI (ok_law_pick W) hr W.g_law_pick passL (pa_cons (pv 0) (pa_cons pe_int pa_nil))) (fun _ _ => rfl)))))))), ?_⟩
  try dsimp only [cxOf, Cx.blk, Cx.blkE]
  have hl : ws.length ≤ 60 := hl
  have hw : ∀ z ∈ ws, GW z := hw
  have hb1 : Str.length " " = 1 := by decide +kernel
  have hb0 : Str.length " " ≤ 1000 := by omega
  have tb : ∀ m : Int, 0 ≤ m → TL.tl (Txt.mul " " m) = blanks m.toNat := fun m hm => by
    rw [tl_mul " " hm, blank_tl]
    generalize m.toNat = j
    induction j with
    | zero => rfl
    | succ j ih =>
      rw [List.replicate_succ, List.flatten_cons, ih]
      rfl
  have lb : ∀ m : Int, 0 ≤ m → (Txt.mul " " m).length = m.toNat := fun m hm => by rw [len_mul " " hm, hb1, Nat.mul_one]
  repeat fail "w"
  intro n0 a0 c0
  refine rd_ixN a0 c0 (fun y hy => ?_)
  obtain ⟨m0, rfl, hm0, hm1⟩ : ∃ m, y = PyData.int m ∧ 0 ≤ m ∧ m ≤ 3 := by
    simp only [List.mem_cons, List.not_mem_nil, or_false] at hy
    rcases hy with rfl | rfl | rfl | rfl <;> exact ⟨_, rfl, by decide, by decide⟩
  refine rd_mulS hm0 (by omega) hb0 ?_
  repeat fail "w"
  refine fs_one (Γ := ⟨K, E, CN K⟩) (M := Mode.draws l) ?_
  refine fs_for (vs := [3, 4]) ?_
  repeat fail "w"
  refine ⟨fun i s1 c1 => ∃ z x3 x4, s1 = [some (.r l), some (.d (.list (ws.map PyData.str))), some (.d (.str z)), x3, x4] ∧ Txd (ws.take i) (TL.tl z) ∧ z.length ≤ 3 + 64 * i, ⟨_, none, none, rfl, ?_, ?_⟩, fun i d s1 c1 hi hI => ?_, fun s1 c1 hI => ?_⟩
  · rw [tb m0 hm0]
    exact .nil _
  · rw [lb m0 hm0]
    omega
  · obtain ⟨z, x3, x4, rfl, htx, hzl⟩ := hI
    obtain ⟨x, hx, rfl⟩ := enum_get hi
    rw [List.getElem?_map] at hx
    obtain ⟨wd, hwd, rfl⟩ := Option.map_eq_some_iff.mp hx
    have hil : i < ws.length := (List.getElem?_eq_some_iff.mp hwd).1
    have hg := hw wd (List.mem_of_getElem? hwd)
    have htk : ws.take (i + 1) = ws.take i ++ [wd] := by
      rw [List.take_add_one, hwd]
      rfl
    refine ⟨_, tgt_tup (.cons _ (.cons _ .nil)) (by decide) rfl rfl, ?_⟩
    refine fs_lift (M := Mode.draws l) .refl ?_
    repeat fail "w"
    refine rc_intB ?_
    repeat fail "w"
    intro n1 a1 c1
    refine rd_ixN a1 c1 (fun y hy => ?_)
    obtain ⟨m1, rfl, hm2, hm3⟩ : ∃ m, y = PyData.int m ∧ 1 ≤ m ∧ m ≤ 4 := by
      simp only [List.mem_cons, List.not_mem_nil, or_false] at hy
      rcases hy with rfl | rfl | rfl | rfl <;> exact ⟨_, rfl, by decide, by decide⟩
    obtain ⟨v, hv, hv2⟩ : ∃ v : Int, (if decide (0 < (i : Int)) = true then (1 : Int) else 0) = v ∧ ((i = 0 ∧ v = 0) ∨ (0 < i ∧ v = 1)) := by
      rcases Nat.eq_zero_or_pos i with h0 | h0
      · exact ⟨0, by rw [if_neg (by simp [h0])], .inl ⟨h0, rfl⟩⟩
      · exact ⟨1, by rw [if_pos (by simp [h0])], .inr ⟨h0, rfl⟩⟩
    have hvm : 0 ≤ v * m1 ∧ v * m1 ≤ 4 ∧ (i = 0 ∨ 1 ≤ v * m1) := by
      rcases hv2 with ⟨h0, e⟩ | ⟨h0, e⟩
      · subst e
        exact ⟨by omega, by omega, .inl h0⟩
      · subst e
        exact ⟨by omega, by omega, .inr (by omega)⟩
    refine rd_mul (.inr ⟨by omega, by omega⟩) ?_
    try rw [hv]
    obtain ⟨g0, g1, g2⟩ := hvm
    refine rd_mulS g0 (by omega) hb0 ?_
    have lm := lb _ g0
    refine rd_catS (by rw [lm, sizeLine_eq]; omega) ?_
    repeat fail "w"
    have hwl := hg.len
    refine rd_catS (by rw [len_app, lm, sizeLine_eq]; omega) ?_
    refine ⟨_, _, _, rfl, ?_, ?_⟩
    · rw [htk, TL.tl_append, TL.tl_append, tb _ g0]
      refine .snoc htx ?_
      rcases g2 with g2 | g2
      · subst g2
        exact .inl rfl
      · exact .inr (by omega)
    · rw [len_app, len_app, lm]
      omega
  · obtain ⟨z, x3, x4, rfl, htx, hzl⟩ := hI
    rw [enum_len, List.length_map, List.take_length] at htx
    rw [enum_len, List.length_map] at hzl
    repeat fail "w"
    intro n1 a1 c1
    refine rd_ixN a1 c1 (fun y hy => ?_)
    obtain ⟨m1, rfl, hm2, hm3⟩ : ∃ m, y = PyData.int m ∧ 0 ≤ m ∧ m ≤ 2 := by
      simp only [List.mem_cons, List.not_mem_nil, or_false] at hy
      rcases hy with rfl | rfl | rfl | rfl <;> exact ⟨_, rfl, by decide, by decide⟩
    refine rd_mulS hm2 (by omega) hb0 ?_
    have lm := lb m1 hm2
    refine rd_catS (by rw [lm, sizeLine_eq]; omega) ?_
    exact ⟨_, rfl, _, _, m1.toNat, rfl, htx, by rw [TL.tl_append, tb m1 hm2], by rw [len_app, lm]; omega⟩
end
end K84

/-! part K84D20 -/
set_option maxHeartbeats 1000000
/-! K84D20: words changed. -/
namespace K84
local macro_rules | `(tactic| fail "w") => `(tactic| (first | with_reducible refine wp_neg ?_ | with_reducible refine wp_pick ?_ | with_reducible refine wp_draw ?_ | with_reducible refine ws_seq ?_ | with_reducible refine ws_nx ?_ | with_reducible refine ws_set ?_ | with_reducible refine ws_ret ?_ | with_reducible refine ws_if ?_ | with_reducible refine ws_drop ?_ | with_reducible refine wt_or ?_ | with_reducible refine wt_and ?_ | with_reducible refine wt_not ?_ | with_reducible refine wt_B ?_ | with_reducible refine wt_test ?_ | with_reducible refine wp_chain ?_ | with_reducible refine wp_andV ?_ | with_reducible refine wp_orV ?_ | with_reducible refine wp_notV ?_ | with_reducible refine wp_if ?_ | with_reducible refine wp_int ?_ | with_reducible refine wp_var (by with_unfolding_all rfl) ?_ | with_reducible refine wp_str ?_ | with_reducible refine wp_bl ?_ | with_reducible refine wp_non ?_ | with_reducible refine wp_ref ?_ | with_reducible refine wp_op ?_ | with_reducible refine wp_tup' ?_ | with_reducible refine wp_lst' ?_ | with_reducible refine wa_cons ?_ | with_reducible refine wa_nil ?_ | with_reducible refine wp_sl ?_ | with_reducible refine wo_none ?_ | with_reducible refine wo_some ?_ | with_reducible refine wp_isi' (by simp) ?_ | with_reducible refine wp_allIn (by with_unfolding_all rfl) (by assumption) (by with_unfolding_all exact of_decide_eq_true rfl) (by with_unfolding_all rfl) ?_ | with_reducible refine wp_cb ?_ | with_reducible refine wp_m1 ?_ | with_reducible refine rs_T1 ?_ | with_reducible refine rs_T' (by with_unfolding_all rfl) (by with_unfolding_all rfl) ?_ | with_reducible refine wi_list ?_ | with_reducible refine wi_tup ?_ | with_reducible refine wi_str ?_ | with_reducible refine wi_rng1 ?_ | with_reducible refine wi_rng2 ?_ | with_reducible refine wi_zipT ?_ | with_reducible refine wi_zipM ?_ | with_reducible refine wi_enum ?_ | with_reducible refine rd_ib ?_ | with_reducible refine rd_ii ?_ | with_reducible refine rd_inSg ?_ | with_reducible refine rd_mod (by first | assumption | decide) ?_ | with_reducible refine rd_mul (cmul_r (by decide +kernel)) ?_ | with_reducible refine rd_mul (cmul_l (by decide +kernel)) ?_ | with_reducible refine rc_max ?_ | with_reducible refine rc_min ?_ | with_reducible refine rd_eqI ?_ | with_reducible refine rd_neI ?_ | with_reducible refine rd_eqS (by first | assumption | decide +kernel) (by first | assumption | decide +kernel) ?_ | with_reducible refine rd_neS (by first | assumption | decide +kernel) (by first | assumption | decide +kernel) ?_ | with_reducible refine rd_iC (cpow_ok (by with_unfolding_all rfl)) ?_ | with_reducible refine rd_isN' (b := true) (by with_unfolding_all rfl) ?_ | with_reducible refine rd_isN' (b := false) (by with_unfolding_all rfl) ?_ | with_reducible refine rd_notN' (b := true) (by with_unfolding_all rfl) ?_ | with_reducible refine rd_notN' (b := false) (by with_unfolding_all rfl) ?_ | with_reducible refine rc_len (by first | assumption | with_unfolding_all rfl) ?_ | with_reducible refine rd_ixT0 ?_ | with_reducible refine rd_ixL0 ?_ | with_reducible refine rd_ixT (by first | assumption | with_unfolding_all rfl) ?_ | with_reducible refine rd_ixL (by first | assumption | with_unfolding_all rfl) ?_ | with_reducible refine wp_callF ?_ | with_reducible refine rc_tupL ?_ | with_reducible refine rc_strS ?_ | with_reducible refine rc_all ?_ | with_reducible refine L2.iteT ?_ | with_reducible refine ite_dT (by with_unfolding_all exact of_decide_eq_true rfl) ?_ | with_reducible refine ite_dF (by with_unfolding_all exact of_decide_eq_false rfl) ?_ | with_reducible refine ite_ndT (by with_unfolding_all exact of_decide_eq_true rfl) ?_ | with_reducible refine ite_ndF (by with_unfolding_all exact of_decide_eq_false rfl) ?_ | with_reducible refine L2.iteF ?_ | with_reducible refine ite_nt ?_ | with_reducible refine ite_nf ?_ | refine ⟨_, true, rfl, rfl, ?_⟩ | refine ⟨_, false, rfl, rfl, ?_⟩ | with_reducible refine ⟨_, rfl, ?_⟩ | with_reducible refine ⟨_, _, rfl, ?_⟩ | with_reducible refine And.intro (by first | assumption | exact trivial | with_unfolding_all exact of_decide_eq_true rfl) ?_ | with_reducible refine And.intro Mode.Sub.no ?_ | with_reducible refine ⟨_, (by with_unfolding_all rfl), (by with_unfolding_all exact of_decide_eq_true rfl), ?_⟩))
open PySem PySem.Spec PyProof.Rows L2
theorem fs_thru {α : Type} {Γ : Ctx0} {F : Fam α} {c : α} {ss : Sd} {t u : TS} {e : EndF α} (R : α → Prop) (h1 : WpFS Γ F c t ss ⟨fun s' c' => s' = ss ∧ R c', fun _ _ => False, e.x⟩) (h2 : ∀ c1, R c1 → WpFS Γ F c1 u ss e) : WpFS Γ F c (tSeq t u) ss e :=
  fs_seq fun Pr G H σ v s D kn kr kx => h1 Pr G H σ v s D (fun ss' σ' c' G' H' ⟨e1, hR⟩ g s' => kn ss' σ' c' G' H' (by subst e1; exact h2 c' hR) g s') (fun _ _ _ _ _ z => z.elim) kx
section
variable {P : Program} {w : World} {K : PySem.W.Frag} {mg : Str → Option Value} {base : Heap}
def menu1 : List Str := ["0", "1", "11", "12", "a", "at", "got", "after", "5:", "note", "join", "do", "free", "hand", "to", "held"]
def menu2 : List Str := ["twin", "ill", "a.b.1", "b.a.2", "a.b.c.1", "say", "01", "bell"]
def menu : List Str := menu1 ++ menu2
theorem gw_dec {z : Str} (h : (decide (z.length ≤ 60) && (!decide (z = "") && (okS z && !decide (32 ∈ TL.tl z)))) = true) : GW z := by
  simp only [Bool.and_eq_true, Bool.not_eq_true', decide_eq_true_eq, decide_eq_false_iff_not] at h
  exact ⟨h.1, h.2.1, h.2.2.1, h.2.2.2⟩
theorem menu_ok : ∀ z ∈ menu, GW z := fun z hz => gw_dec (by
  have e : ∀ z ∈ menu, (decide (z.length ≤ 60) && (!decide (z = "") && (okS z && !decide (32 ∈ TL.tl z)))) = true := by decide +kernel
  exact e z hz)
abbrev N_law_changed : List Str := ["_law_left_here", "_law_words", "_law_at", "_law_some", "_law_way"]
abbrev P_law_changed : List Str := ["_law_left_here", "_law_words"]
theorem sc_law_changed : FnScope N_law_changed P_law_changed (defScope s_law_changed) := ⟨rfl, rfl, rfl, by decide +kernel, rfl, by decide +kernel, by decide +kernel⟩
abbrev sp_law_changed (K : PySem.W.Frag) : Sp := spD K (CN K) (fun p : Addr × List Str => Mode.draws p.1) (fun p => [.r p.1, .d (.list (p.2.map PyData.str))]) (fun p => (1 ≤ p.2.length ∧ p.2.length ≤ 500) ∧ ∀ z ∈ p.2, GW z)
  (fun p y => ∃ ws : List Str, y = .list (ws.map PyData.str) ∧ (1 ≤ ws.length ∧ ws.length ≤ p.2.length + 1) ∧ ∀ z ∈ ws, GW z) (fun _ => False)
theorem ok_law_changed (W : Wd w K mg) : FnI P w K mg base 2 (He.ga K "_law_changed") (sp_law_changed K) := by
  obtain ⟨fd, F⟩ := W.fd_law_changed
  refine FnI.of F sc_law_changed (fun _ _ _ _ _ _ us hl => match us, hl with | [_, _], _ => rfl) (fun _ _ => rfl) fun cdv A outer s H E hr ⟨l, ws⟩ ⟨⟨hl1, hl2⟩, hw⟩ => ⟨_, (pss_cons (ps_set (i := 1) sc_law_changed.nd rfl (Or.inl rfl) (pe_callTy (callK rLstS K call_lstS) rfl W.f_list PyProof.Rows.Boot.«list» (pa_cons (pv 1) pa_nil)))
      (pss_cons (ps_set (i := 2) sc_law_changed.nd rfl (Or.inl rfl) (pe_callI (ok_law_pick W) hr W.g_law_pick passL (pa_cons (pv 0) (pa_cons (pe_callB (callK rLenD K call_lenD2) rfl W.f_len PyProof.Rows.Boot.«len» (pa_cons (pv 1) pa_nil)) pa_nil))))
      (pss_cons (ps_set (i := 3) sc_law_changed.nd rfl (Or.inl rfl) (pe_lst (pa_cons pe_str (pa_cons pe_str (pa_cons pe_str (pa_cons pe_str (pa_cons pe_str (pa_cons pe_str (pa_cons pe_str (pa_cons pe_str (pa_cons pe_str (pa_cons pe_str (pa_cons pe_str (pa_cons pe_str (pa_cons pe_str (pa_cons pe_str (pa_cons pe_str (pa_cons pe_str pa_nil))))))))))))))))))
      (pss_cons (ps_set (i := 3) sc_law_changed.nd rfl (Or.inl rfl) (pe_op op_cat (pv 3) (pe_lst (pa_cons pe_str (pa_cons pe_str (pa_cons pe_str (pa_cons pe_str (pa_cons pe_str (pa_cons pe_str (pa_cons pe_str (pa_cons pe_str pa_nil)))))))))))
      (pss_cons (ps_expr (pe_bmK K PySem.F.plainAttrs_list PySem.F.slot_list_append PySem.F.type_list_append mt_appendR (pv 3) (pa_cons (pe_ix (ixK rIxL K ix_list) (pv 1) (pe_callI (ok_law_pick W) hr W.g_law_pick passL (pa_cons (pv 0) (pa_cons (pe_callB (callK rLenD K call_lenD2) rfl W.f_len PyProof.Rows.Boot.«len» (pa_cons (pv 1) pa_nil)) pa_nil))) (fun _ _ => rfl)) pa_nil)))
      (pss_cons (ps_set (i := 4) sc_law_changed.nd rfl (Or.inl rfl) (pe_callI (ok_law_pick W) hr W.g_law_pick passL (pa_cons (pv 0) (pa_cons pe_int pa_nil))))
      (pss_cons (ps_if (PW.pt (pw_and (pt_cmpR (opK rEqD K (op_eqD hr.units)) (pv 4) pe_int (nomark _)) (pw_and1 (pt_cmpR op_gt (pe_callB (callK rLenD K call_lenD2) rfl W.f_len PyProof.Rows.Boot.«len» (pa_cons (pv 1) pa_nil)) pe_int (nomark _))))) (pss_one (ps_expr (pe_bmK K PySem.F.plainAttrs_list PySem.F.slot_list_pop PySem.F.type_list_pop mt_popR (pv 1) (pa_cons (pv 2) pa_nil)))) (pss_one (ps_if (pt_cmpR (opK rEqD K (op_eqD hr.units)) (pv 4) pe_int (nomark _)) (pss_one (ps_expr (pe_bmK K PySem.F.plainAttrs_list PySem.F.slot_list_insert PySem.F.type_list_insert mt_insL (pv 1) (pa_cons (pv 2) (pa_cons (pe_ix (ixK rIxL K ix_list) (pv 1) (pe_callI (ok_law_pick W) hr W.g_law_pick passL (pa_cons (pv 0) (pa_cons (pe_callB (callK rLenD K call_lenD2) rfl W.f_len PyProof.Rows.Boot.«len» (pa_cons (pv 1) pa_nil)) pa_nil))) (fun _ _ => rfl)) pa_nil))))) (pss_one (ps_if (pt_cmpR (opK rEqD K (op_eqD hr.units)) (pv 4) pe_int (nomark _)) (pss_one (ps_asg (pe_tup (pa_cons (pe_ix (ixK rIxL K ix_list) (pv 1) (pe_un un_neg pe_int) (fun _ _ => rfl)) (pa_cons (pe_ix (ixK rIxL K ix_list) (pv 1) (pv 2) (fun _ _ => rfl)) pa_nil))) (pg_tupK 2 K rfl (pgs_cons (pg_sub (pv 1) (pv 2) set_list) (pgs_cons (pg_sub (pv 1) (pe_un un_neg pe_int) set_list) pgs_nil))))) (pss_one (ps_if (pt_cmpR (opK rEqD K (op_eqD hr.units)) (pv 4) pe_int (nomark _)) (pss_one (ps_expr (pe_bmK K PySem.F.plainAttrs_list PySem.F.slot_list_insert PySem.F.type_list_insert mt_insL (pv 1) (pa_cons (pv 2) (pa_cons (pe_ix (ixK rIxL K ix_list) (pv 3) (pe_callI (ok_law_pick W) hr W.g_law_pick passL (pa_cons (pv 0) (pa_cons pe_int pa_nil))) (fun _ _ => rfl)) pa_nil))))) (pss_one (ps_asg (pe_ix (ixK rIxL K ix_list) (pv 3) (pe_callI (ok_law_pick W) hr W.g_law_pick passL (pa_cons (pv 0) (pa_cons pe_int pa_nil))) (fun _ _ => rfl)) (pg_sub (pv 1) (pv 2) set_list))))))))))
      (pss_one (ps_ret (pv 1)))))))))), ?_⟩
  have hl1 : 1 ≤ ws.length := hl1
  have hl2 : ws.length ≤ 500 := hl2
  have hw : ∀ z ∈ ws, GW z := hw
  try dsimp only [cxOf, Cx.blk, Cx.blkE]
  refine fs_one (Γ := ⟨K, E, CN K⟩) (M := Mode.draws l) ?_
  refine fs_new (N := cnS) ownS (fr_listS (fa_lift0 ?_))
  repeat fail "w"
  intro q1 hq1
  have hml : (ws.map PyData.str).length = ws.length := List.length_map ..
  refine fs_seq (fs_set (wf_peek gf_draws hq1 1 rfl (wf_lift (M := Mode.draws l) .refl ?_)))
  repeat fail "w"
  refine ⟨⟨by omega, by omega⟩, fun at_ a0 a1 => ⟨rfl, ?_⟩⟩
  refine fs_seq (fs_set (wf_lift0 ?_))
  repeat fail "w"
  refine fs_new (N := cnS) ownS (fr_catS (wf_lift0 ?_))
  repeat fail "w"
  refine wf_lift0 ?_
  repeat fail "w"
  refine ⟨menu1, menu2, rfl, rfl, by decide, fun q2 hq2 => ?_⟩
  have hmenu : menu1 ++ menu2 = menu := rfl
  have hmk := menu_ok
  have hmn : menu.length = 24 := by decide
  rw [hmenu]
  generalize menu = mn at *
  refine fs_seq (fs_bm hq2 rfl (fa_cons (wf_peek gf_draws hq1 1 rfl (wf_lift (M := Mode.draws l) .refl ?_))))
  repeat fail "w"
  refine ⟨⟨by omega, by omega⟩, fun n2 b0 b1 => ?_⟩
  refine rd_ixN b0 b1 (fun y hy => ?_)
  obtain ⟨z2, hz2, rfl⟩ := List.mem_map.mp hy
  refine ⟨rfl, fa_nil ⟨_, ch_appS (by omega), ?_⟩⟩
  have hsk : ∀ z ∈ mn ++ [z2], GW z := fun z hz => by
    rcases List.mem_append.mp hz with h | h
    · exact hmk z h
    · simp at h
      rw [h]
      exact hw z2 hz2
  have hsl : (mn ++ [z2]).length = 25 := by rw [List.length_append, hmn]; rfl
  have hsm : ((mn ++ [z2]).map PyData.str).length = 25 := by rw [List.length_map, hsl]
  generalize mn ++ [z2] = sm at *
  refine fs_seq (fs_set (wf_sub (FSub.cell hq2) (wf_sub (FSub.cell hq1) (wf_lift (M := Mode.draws l) .refl ?_))))
  repeat fail "w"
  intro way c0 c1
  refine fs_thru (fun c' => ∃ ws', c' = (((), ws'), sm) ∧ (1 ≤ ws'.length ∧ ws'.length ≤ ws.length + 1) ∧ ∀ z ∈ ws', GW z) ?_ (fun c' ⟨ws', ec, hL, hG⟩ => ?_)
  rotate_left
  · subst ec
    refine fs_ret (wf_vr rfl ?_)
    exact .inr (.inl ⟨rfl, _, rfl, ws', rfl, hL, hG⟩)
  have ha : 0 ≤ at_ ∧ at_ < ws.length := ⟨a0, by omega⟩
  have hq2' : ¬ (Fam.one (Mode.draws l)).own q2 := fun z => hq2 (.inl z)
  have hq12 : ¬ ((Fam.one (Mode.draws l)).cell q2 cnS).own q1 := fun z => z.elim hq1 fun e => hq2 (.inr e.symm)
  have hwl : (ws.map PyData.str).length = ws.length := List.length_map ..
  have hres : ∀ i : Nat, ∀ z, GW z → ∀ y ∈ ws.take i ++ [z] ++ ws.drop i, GW y := fun i z hz y hy => by
    simp only [List.mem_append, List.mem_singleton] at hy
    rcases hy with (h | h) | h
    · exact hw y (List.mem_of_mem_take h)
    · rw [h]
      exact hz
    · exact hw y (List.mem_of_mem_drop h)
  have hlen : ∀ (i : Nat) (z : Str), (ws.take i ++ [z] ++ ws.drop i).length = ws.length + 1 := fun i z => by
    simp only [List.length_append, List.length_take, List.length_drop, List.length_singleton]
    omega
  refine fs_ifB (1 < ws.length) (ft_sub (FSub.cell hq2) (ft_peek gf_draws hq1 1 rfl (ft_lift0 ?_))) (fun h1 => ?_) ?_
  · repeat fail "w"
    refine b_if2 (fun h0 => ?_) (fun h0 => ?_)
    · repeat fail "w"
      exact ⟨rfl, fun z => by have := of_decide_eq_true z; omega⟩
    · exact ⟨rfl, fun z => nomatch z⟩
  · refine fs_sub0 (FSub.cell hq2) (fs_bm hq1 rfl (fa_cons (wf_vr rfl (fa_nil ⟨_, ch_popS (by omega) a0 (by omega), rfl, _, rfl, ?_, fun z hz => hw z (List.mem_of_mem_eraseIdx hz)⟩))))
    rw [List.length_eraseIdx]
    split <;> omega
  refine fs_ifB True (ft_lift0 ?_) (fun _ => ?_) ?_
  · repeat fail "w"
    exact ⟨rfl, fun _ => trivial⟩
  · refine fs_sub0 (FSub.cell hq2) (fs_bm2 hq1 rfl (fa_cons (wf_vr rfl (fa_cons (wf_peek gf_draws hq1 1 rfl (wf_lift (M := Mode.draws l) .refl ?_))))))
    repeat fail "w"
    refine ⟨⟨by omega, by omega⟩, fun n2 b0 b1 => ?_⟩
    refine rd_ixN b0 b1 (fun y hy => ?_)
    obtain ⟨z3, hz3, rfl⟩ := List.mem_map.mp hy
    refine ⟨rfl, fa_nil ⟨_, ch_insS (by show ws.length ≤ 1000; omega) a0 (by omega), rfl, _, rfl, ?_, hres _ z3 (hw z3 hz3)⟩⟩
    rw [hlen]
    omega
  refine fs_ifB True (ft_lift0 ?_) (fun _ => ?_) ?_
  · repeat fail "w"
    exact ⟨rfl, fun _ => trivial⟩
  · refine fs_sub0 (FSub.cell hq2) (fs_set2 hq1 rfl (wf_peek gf_draws hq1 1 rfl (wf_lift0 ?_)))
    repeat fail "w"
    have hixl : ixN ws.length (-1) = some (ws.length - 1) := by
      unfold ixN
      rw [if_neg (by decide), if_pos (by omega)]
      congr 1
      omega
    have hixa : ixN ws.length at_ = some at_.toNat := by
      unfold ixN
      rw [if_pos a0, if_pos (by omega)]
    have hg : ∀ (i : Int) (j : Nat) (h : j < ws.length), ixN ws.length i = some j → atI (ws.map PyData.str) i = some (.str ws[j]) := fun i j h e => by
      unfold atI
      rw [List.length_map, e]
      show (ws.map PyData.str)[j]? = _
      rw [List.getElem?_map, List.getElem?_eq_getElem h]
      rfl
    refine rd_ixL (hg _ _ (by omega) hixl) ?_
    repeat fail "w"
    refine rd_ixL (hg _ _ (by omega) hixa) ?_
    repeat fail "w"
    refine ⟨_, _, at_, -1, rfl, rfl, wp_var rfl rfl, ?_, _, _, hixa, hixl, rfl, _, rfl, ?_, fun z hz => ?_⟩
    · repeat fail "w"
      rfl
    · rw [List.length_set, List.length_set]
      omega
    · rcases List.mem_or_eq_of_mem_set hz with h | h
      · rcases List.mem_or_eq_of_mem_set h with h | h
        · exact hw z h
        · rw [h]
          exact hw _ (List.getElem_mem _)
      · rw [h]
        exact hw _ (List.getElem_mem _)
  refine fs_ifB True (ft_lift0 ?_) (fun _ => ?_) ?_
  · repeat fail "w"
    exact ⟨rfl, fun _ => trivial⟩
  · refine fs_sub0 FSub.swap (fs_bm hq12 rfl (fa_cons (wf_vr rfl (fa_cons (wf_peek gf_draws hq2' 3 rfl (wf_lift (M := Mode.draws l) .refl ?_))))))
    repeat fail "w"
    intro n2 b0 b1
    refine rd_ixN b0 (by omega) (fun y hy => ?_)
    obtain ⟨z3, hz3, rfl⟩ := List.mem_map.mp hy
    refine ⟨rfl, fa_nil ⟨_, ch_insS (by show ws.length ≤ 1000; omega) a0 (by omega), rfl, _, rfl, ?_, hres _ z3 (hsk z3 hz3)⟩⟩
    rw [hlen]
    omega
  · refine fs_sub0 FSub.swap (fs_setI hq12 rfl (wf_sub (FSub.cell hq12) (wf_peek gf_draws hq2' 3 rfl (wf_lift (M := Mode.draws l) .refl ?_))))
    repeat fail "w"
    intro n2 b0 b1
    refine rd_ixN b0 (by omega) (fun y hy => ?_)
    obtain ⟨z3, hz3, rfl⟩ := List.mem_map.mp hy
    refine ⟨rfl, z3, at_, rfl, rfl, wp_var rfl rfl, a0, by omega, rfl, _, rfl, ?_, fun z hz => ?_⟩
    · rw [List.length_set]
      omega
    · rcases List.mem_or_eq_of_mem_set hz with h | h
      · exact hw z h
      · rw [h]
        exact hsk z3 hz3
end
end K84

/-! part K84D21 -/
set_option maxHeartbeats 1000000
/-! K84D21: drawn letters. -/
namespace K84
local macro_rules | `(tactic| fail "w") => `(tactic| (first | with_reducible refine wp_neg ?_ | with_reducible refine wp_pick ?_ | with_reducible refine wp_draw ?_ | with_reducible refine ws_seq ?_ | with_reducible refine ws_nx ?_ | with_reducible refine ws_set ?_ | with_reducible refine ws_ret ?_ | with_reducible refine ws_if ?_ | with_reducible refine ws_drop ?_ | with_reducible refine wt_or ?_ | with_reducible refine wt_and ?_ | with_reducible refine wt_not ?_ | with_reducible refine wt_B ?_ | with_reducible refine wt_test ?_ | with_reducible refine wp_chain ?_ | with_reducible refine wp_andV ?_ | with_reducible refine wp_orV ?_ | with_reducible refine wp_notV ?_ | with_reducible refine wp_if ?_ | with_reducible refine wp_int ?_ | with_reducible refine wp_var (by with_unfolding_all rfl) ?_ | with_reducible refine wp_str ?_ | with_reducible refine wp_bl ?_ | with_reducible refine wp_non ?_ | with_reducible refine wp_ref ?_ | with_reducible refine wp_op ?_ | with_reducible refine wp_tup' ?_ | with_reducible refine wp_lst' ?_ | with_reducible refine wa_cons ?_ | with_reducible refine wa_nil ?_ | with_reducible refine wp_sl ?_ | with_reducible refine wo_none ?_ | with_reducible refine wo_some ?_ | with_reducible refine wp_isi' (by simp) ?_ | with_reducible refine wp_allIn (by with_unfolding_all rfl) (by assumption) (by with_unfolding_all exact of_decide_eq_true rfl) (by with_unfolding_all rfl) ?_ | with_reducible refine wp_cb ?_ | with_reducible refine wp_m1 ?_ | with_reducible refine rs_T1 ?_ | with_reducible refine rs_T' (by with_unfolding_all rfl) (by with_unfolding_all rfl) ?_ | with_reducible refine wi_list ?_ | with_reducible refine wi_tup ?_ | with_reducible refine wi_str ?_ | with_reducible refine wi_rng1 ?_ | with_reducible refine wi_rng2 ?_ | with_reducible refine wi_zipT ?_ | with_reducible refine wi_zipM ?_ | with_reducible refine wi_enum ?_ | with_reducible refine rd_ib ?_ | with_reducible refine rd_ii ?_ | with_reducible refine rd_inSg ?_ | with_reducible refine rd_mod (by first | assumption | decide) ?_ | with_reducible refine rd_mul (cmul_r (by decide +kernel)) ?_ | with_reducible refine rd_mul (cmul_l (by decide +kernel)) ?_ | with_reducible refine rc_max ?_ | with_reducible refine rc_min ?_ | with_reducible refine rd_eqI ?_ | with_reducible refine rd_neI ?_ | with_reducible refine rd_eqS (by first | assumption | decide +kernel) (by first | assumption | decide +kernel) ?_ | with_reducible refine rd_neS (by first | assumption | decide +kernel) (by first | assumption | decide +kernel) ?_ | with_reducible refine rd_iC (cpow_ok (by with_unfolding_all rfl)) ?_ | with_reducible refine rd_isN' (b := true) (by with_unfolding_all rfl) ?_ | with_reducible refine rd_isN' (b := false) (by with_unfolding_all rfl) ?_ | with_reducible refine rd_notN' (b := true) (by with_unfolding_all rfl) ?_ | with_reducible refine rd_notN' (b := false) (by with_unfolding_all rfl) ?_ | with_reducible refine rc_len (by first | assumption | with_unfolding_all rfl) ?_ | with_reducible refine rd_ixT0 ?_ | with_reducible refine rd_ixL0 ?_ | with_reducible refine rd_ixT (by first | assumption | with_unfolding_all rfl) ?_ | with_reducible refine rd_ixL (by first | assumption | with_unfolding_all rfl) ?_ | with_reducible refine wp_callF ?_ | with_reducible refine rc_tupL ?_ | with_reducible refine rc_strS ?_ | with_reducible refine rc_all ?_ | with_reducible refine L2.iteT ?_ | with_reducible refine ite_dT (by with_unfolding_all exact of_decide_eq_true rfl) ?_ | with_reducible refine ite_dF (by with_unfolding_all exact of_decide_eq_false rfl) ?_ | with_reducible refine ite_ndT (by with_unfolding_all exact of_decide_eq_true rfl) ?_ | with_reducible refine ite_ndF (by with_unfolding_all exact of_decide_eq_false rfl) ?_ | with_reducible refine L2.iteF ?_ | with_reducible refine ite_nt ?_ | with_reducible refine ite_nf ?_ | refine ⟨_, true, rfl, rfl, ?_⟩ | refine ⟨_, false, rfl, rfl, ?_⟩ | with_reducible refine ⟨_, rfl, ?_⟩ | with_reducible refine ⟨_, _, rfl, ?_⟩ | with_reducible refine And.intro (by first | assumption | exact trivial | with_unfolding_all exact of_decide_eq_true rfl) ?_ | with_reducible refine And.intro Mode.Sub.no ?_ | with_reducible refine ⟨_, (by with_unfolding_all rfl), (by with_unfolding_all exact of_decide_eq_true rfl), ?_⟩))
open PySem PySem.Spec PyProof.Rows L2
section
variable {P : Program} {w : World} {K : PySem.W.Frag} {mg : Str → Option Value} {base : Heap}
abbrev N_law_letter : List Str := ["_law_left_here", "_law_house", "_law_deal", "_law_number_here", "_law_prev", "_law_gots", "_law_k", "_law_name_here"]
abbrev P_law_letter : List Str := ["_law_left_here"]
theorem sc_law_letter : FnScope N_law_letter P_law_letter (defScope s_law_letter) := ⟨rfl, rfl, rfl, by decide +kernel, rfl, by decide +kernel, by decide +kernel⟩
abbrev sp_law_letter (K : PySem.W.Frag) : Sp := spW K (fun y => ∃ l : LL, y = l.D ∧ l.Good)
theorem ok_law_letter (W : Wd w K mg) : FnI P w K mg base 4 (He.ga K "_law_letter") (sp_law_letter K) := by
  obtain ⟨fd, F⟩ := W.fd_law_letter
  refine FnI.of F sc_law_letter (fun _ _ _ _ _ _ us hl => match us, hl with | [_], _ => rfl) (fun _ _ => rfl) fun cdv A outer s H E hr l _ => ⟨_, (pss_cons (ps_asg (pe_callI (ok_law_name W) hr W.g_law_name passL (pa_cons (pv 0) pa_nil)) (pg_tupK 3 K rfl (pgs_cons (pg_name (i := 1) sc_law_letter.nd rfl (Or.inl rfl)) (pgs_cons (pg_name (i := 2) sc_law_letter.nd rfl (Or.inl rfl)) (pgs_cons (pg_name (i := 3) sc_law_letter.nd rfl (Or.inl rfl)) pgs_nil)))))
      (pss_cons (ps_set (i := 4) sc_law_letter.nd rfl (Or.inl rfl) (pe_ix (ixK rIxL K ix_list) (pe_lst (pa_cons pe_int (pa_cons (pe_callI (ok_law_number W) hr W.g_law_number passL (pa_cons (pv 0) pa_nil)) (pa_cons pe_int (pa_cons pe_int pa_nil))))) (pe_callI (ok_law_pick W) hr W.g_law_pick passL (pa_cons (pv 0) (pa_cons pe_int pa_nil))) (fun _ _ => rfl)))
      (pss_cons (ps_set (i := 5) sc_law_letter.nd rfl (Or.inl rfl) (pe_dnewE P w))
      (pss_cons (ps_for (passes_of rfl) rfl (pi_range1 rfl W.f_range (pa_cons (pe_ix (ixK rIxL K ix_list) (pe_lst (pa_cons pe_int (pa_cons pe_int (pa_cons pe_int (pa_cons pe_int (pa_cons pe_int (pa_cons pe_int pa_nil))))))) (pe_callI (ok_law_pick W) hr W.g_law_pick passL (pa_cons (pv 0) (pa_cons pe_int pa_nil))) (fun _ _ => rfl)) pa_nil)) (pg_name (i := 6) sc_law_letter.nd rfl (Or.inl rfl)) (pss_cons (ps_set (i := 7) sc_law_letter.nd rfl (Or.inl rfl) (pe_callI (ok_law_name W) hr W.g_law_name passL (pa_cons (pv 0) pa_nil)))
      (pss_cons (ps_if (pt_cmpR (opK rEqD K (op_eqD hr.units)) (pe_op op_mod (pv 6) pe_int) pe_int (nomark _)) (pss_one (ps_set (i := 7) sc_law_letter.nd rfl (Or.inl rfl) (pe_tup (pa_cons (pe_ix (ixK rIxT K ix_tup) (pv 7) pe_int (fun _ _ => rfl)) (pa_cons (pe_op op_catS (pv 2) (pe_op op_mulS pe_str (pe_callTy call_intB rfl W.f_int PyProof.Rows.Boot.«int» (pa_cons (pe_cmpR op_lt (pe_callB (callK rLenD K call_lenD2) rfl W.f_len PyProof.Rows.Boot.«len» (pa_cons (pv 2) pa_nil)) pe_int (nomark _)) pa_nil)))) (pa_cons (pe_ix (ixK rIxT K ix_tup) (pv 7) pe_int (fun _ _ => rfl)) pa_nil)))))) pss_nil)
      (pss_one (ps_if (pt_cmpR (opK rNeD K (op_neD hr.units)) (pe_slice (slK rSlT K sl_tup) (pv 7) po_none (po_some pe_int)) (pe_tup (pa_cons (pv 1) (pa_cons (pv 2) pa_nil))) (nomark _)) (pss_one (ps_dputE K P w (Nat.lt_of_le_of_lt (Nat.add_le_add_left (by decide) _) (u65 hr)) (pv 5) (pv 7) pe_bl)) pss_nil)))))
      (pss_one (ps_ret (pe_tup (pa_cons (pv 1) (pa_cons (pv 2) (pa_cons (pv 3) (pa_cons (pv 4) (pa_cons (pe_callTy (callK rTupL K call_tupL) rfl W.f_tuple PyProof.Rows.Boot.«tuple» (pa_cons (pe_callB (call_sortE K P w rfl) rfl W.f_sorted PyProof.Rows.Boot.«sorted» (pa_cons (pv 5) pa_nil)) pa_nil)) (pa_cons (pe_callI (ok_law_number W) hr W.g_law_number passL (pa_cons (pv 0) pa_nil)) (pa_cons (pe_callI (ok_law_deed W) hr W.g_law_deed passL (pa_cons (pv 0) pa_nil)) pa_nil)))))))))))))), ?_⟩
  try dsimp only [cxOf, Cx.blk, Cx.blkE]
  refine fs_one (Γ := ⟨K, E, CN K⟩) (M := Mode.draws l) ?_
  refine fs_seq (fs_lift (M := Mode.draws l) .refl ?_)
  refine ws_unp (.cons _ (.cons _ (.cons _ .nil))) ?_
  repeat fail "w"
  refine ⟨rfl, fun y ⟨g, ey, gw, g0, g1⟩ => ?_⟩
  subst ey
  obtain ⟨ha, de, nu⟩ := g
  repeat fail "w"
  refine fs_seq (fs_lift (M := Mode.draws l) .refl ?_)
  repeat fail "w"
  refine ⟨rfl, fun y ⟨n, ey, n0, n1⟩ => ?_⟩
  subst ey
  repeat fail "w"
  intro m m0 m1
  refine rd_ixN m0 m1 (fun y hy => ?_)
  obtain ⟨pv, rfl, p0, p1⟩ : ∃ pv, y = PyData.int pv ∧ 0 ≤ pv ∧ pv < 10 ^ 30 := by
    simp only [List.mem_cons, List.not_mem_nil, or_false] at hy
    rcases hy with rfl | rfl | rfl | rfl
    · exact ⟨_, rfl, by decide +kernel, by decide +kernel⟩
    · exact ⟨_, rfl, n0, n1⟩
    · exact ⟨_, rfl, by decide +kernel, by decide +kernel⟩
    · exact ⟨_, rfl, by decide +kernel, by decide +kernel⟩
  refine fs_newE fun q hq => ?_
  refine fs_midR (fun s1 c1 => ∃ ns x6 x7, c1 = ((), ns) ∧ s1 = [some (.r l), some (.d (.str ha)), some (.d (.str de)), some (.d (.int nu)), some (.d (.int pv)), some (.r q), x6, x7] ∧ ns.length ≤ 30 ∧ ∀ g ∈ ns, GoodN g) ?_ ?_
  · refine fs_forM (M := Mode.draws l) (vs := [6]) (sub_dcell .refl hq) ?_
    repeat fail "w"
    intro m2 m20 m21
    refine rd_ixN m20 m21 (fun y hy => ?_)
    obtain ⟨rv, rfl, r0, r1⟩ : ∃ rv, y = PyData.int rv ∧ 0 ≤ rv ∧ rv ≤ 30 := by
      simp only [List.mem_cons, List.not_mem_nil, or_false] at hy
      rcases hy with rfl | rfl | rfl | rfl | rfl | rfl <;> exact ⟨_, rfl, by decide, by decide⟩
    repeat fail "w"
    refine ⟨by omega, by omega, fun i s1 c1 => ∃ ns x6 x7, c1 = ((), ns) ∧ s1 = [some (.r l), some (.d (.str ha)), some (.d (.str de)), some (.d (.int nu)), some (.d (.int pv)), some (.r q), x6, x7] ∧ ns.length ≤ i ∧ ∀ g ∈ ns, GoodN g, ⟨[], none, none, rfl, rfl, Nat.le_refl _, fun _ z => nomatch z⟩, fun i d s1 c1 hi hI => ?_, fun s1 c1 ⟨ns, x6, x7, e1, e2, e3, e4⟩ => ⟨ns, x6, x7, e1, e2, ?_, e4⟩⟩
    · obtain ⟨ns, x6, x7, rfl, rfl, hnl, hgs⟩ := hI
      obtain ⟨y, hy, rfl⟩ := get_d hi
      have hir : i < rv.toNat := by
        have := (List.getElem?_eq_some_iff.mp hy).1
        simpa [rangeD] using this
      obtain rfl : y = .int (i : Int) := by
        unfold rangeD at hy
        rw [List.getElem?_map, List.getElem?_range hir] at hy
        have hy' := Option.some.inj hy
        rw [← hy']
        simp
      refine ⟨_, tgt_name (by decide), ?_⟩
      refine fs_seq (fs_lift (M := Mode.draws l) (sub_dcell .refl hq) ?_)
      repeat fail "w"
      refine ⟨rfl, fun y ⟨g, ey, gw2, g02, g12⟩ => ?_⟩
      subst ey
      obtain ⟨ha2, de2, nu2⟩ := g
      refine fs_midR (fun s1 c1 => ∃ g, c1 = ((), ns) ∧ s1 = [some (.r l), some (.d (.str ha)), some (.d (.str de)), some (.d (.int nu)), some (.d (.int pv)), some (.r q), some (.d (.int (i : Int))), some (.d (nameD g))] ∧ GoodN g) (fs_if (ft_lift0 ?_)) ?_
      · repeat fail "w"
        refine b_if2 (fun h => ?_) (fun h => ?_)
        · refine fs_lift0 ?_
          repeat fail "w"
          refine rc_len (wordB_Sm gw.2).lenD ?_
          repeat fail "w"
          refine rc_intB ?_
          repeat fail "w"
          obtain ⟨v, hv, hv2⟩ : ∃ v : Int, (if decide ((de.length : Int) < 12) = true then (1 : Int) else 0) = v ∧ (v = 0 ∨ (v = 1 ∧ de.length < 12)) := by
            by_cases h0 : (de.length : Int) < 12
            · exact ⟨1, by rw [if_pos (by simp [h0])], .inr ⟨rfl, by omega⟩⟩
            · exact ⟨0, by rw [if_neg (by simp [h0])], .inl rfl⟩
          try rw [hv]
          have hb1 : Str.length "b" = 1 := by decide +kernel
          have hv0 : 0 ≤ v ∧ v ≤ 1 := by omega
          have hdl : de.length ≤ 500 := (wordB_Sm gw.2).len
          refine rd_mulS hv0.1 (by omega) (by omega) ?_
          have lm : (Txt.mul "b" v).length = v.toNat := by rw [len_mul "b" hv0.1, hb1, Nat.mul_one]
          refine rd_catS (by rw [lm, sizeLine_eq]; omega) ?_
          repeat fail "w"
          have hwd : wordB (de ++ Txt.mul "b" v) = true := by
            obtain ⟨⟨q1, q2⟩, q3⟩ := (wordB_iff de).mp gw.2
            refine (wordB_iff _).mpr ⟨⟨?_, ?_⟩, fun c hc => ?_⟩
            · rw [TL.tl_append, List.length_append]
              omega
            · rw [← TL.len_tl, len_app, lm]
              rw [← TL.len_tl] at q2
              omega
            · rw [TL.tl_append] at hc
              rcases List.mem_append.mp hc with hc | hc
              · exact q3 c hc
              · rw [tl_mul "b" hv0.1] at hc
                obtain ⟨r, hr1, hr2⟩ := List.mem_flatten.mp hc
                rw [List.eq_of_mem_replicate hr1] at hr2
                have e : ∀ c ∈ TL.tl "b", lowB c = true := by decide +kernel
                exact e c hr2
          exact ⟨(ha2, de ++ Txt.mul "b" v, nu2), rfl, rfl, ⟨gw2.1, hwd⟩, g02, g12⟩
        · exact fs_nx ⟨(ha2, de2, nu2), rfl, rfl, gw2, g02, g12⟩
      · rintro s1 c1 ⟨⟨ha3, de3, nu3⟩, rfl, rfl, hg3⟩
        refine fs_if (ft_lift0 ?_)
        repeat fail "w"
        refine rd_neTW [ha3, de3] [ha, de] rfl rfl (fun z hz => ?_) (fun z hz => ?_) ?_
        · simp at hz
          rcases hz with rfl | rfl
          · exact (wordB_Sm hg3.1.1).ok
          · exact (wordB_Sm hg3.1.2).ok
        · simp at hz
          rcases hz with rfl | rfl
          · exact (wordB_Sm gw.1).ok
          · exact (wordB_Sm gw.2).ok
        repeat fail "w"
        refine b_ifn (fun h => ?_) (fun h => ?_)
        · exact fs_nx ⟨ns, _, _, rfl, rfl, by omega, hgs⟩
        · refine fs_dput hq rfl (by omega) (wp_var rfl ⟨(ha3, de3, nu3), rfl, putN ns (ha3, de3, nu3), _, _, rfl, rfl, ?_, fun g hg => ?_⟩)
          · have := putN_len ns (ha3, de3, nu3)
            omega
          · rcases putN_mem hg with h | h
            · exact hgs g h
            · rw [h]
              exact hg3
    · have e3' : ns.length ≤ rv.toNat := by simpa [rangeD] using e3
      omega
  · rintro s1 c1 ⟨ns, x6, x7, rfl, rfl, hl30, hgs⟩
    refine fs_ret (wf_tup (fa_cons (wf_vr rfl (fa_cons (wf_vr rfl (fa_cons (wf_vr rfl (fa_cons (wf_vr rfl (fa_cons (wf_tupSort rfl fun os hos => fa_cons (wf_lift (M := Mode.draws l) (sub_dcell .refl hq) ?_))))))))))))
    repeat fail "w"
    refine ⟨rfl, fun y ⟨tm, ey, t0, t1⟩ => ?_⟩
    subst ey
    refine fa_cons (wf_lift (M := Mode.draws l) (sub_dcell .refl hq) ?_)
    repeat fail "w"
    refine ⟨rfl, fun y ⟨its, ey, hit⟩ => ?_⟩
    subst ey
    refine fa_nil ⟨_, rfl, by simp, _, rfl, ⟨(ha, de, nu), pv, os, tm, its⟩, rfl, ⟨⟨gw, g0, g1⟩, ⟨p0, p1⟩, fun g hg => hgs g (hos.mem_iff.mp hg), by rw [hos.length_eq]; exact hl30, ⟨t0, t1⟩, hit⟩⟩
end
end K84

/-! part K84D28 -/
set_option maxHeartbeats 1000000
/-! K84D28: the law. -/
namespace K84
local macro_rules | `(tactic| fail "i") => `(tactic| (first | with_reducible refine wp_neg ?_ | with_reducible refine wp_pick ?_ | with_reducible refine wp_draw ?_ | with_reducible refine ws_seq ?_ | with_reducible refine ws_nx ?_ | with_reducible refine ws_set ?_ | with_reducible refine ws_ret ?_ | with_reducible refine ws_drop ?_ | with_reducible refine wt_or ?_ | with_reducible refine wt_and ?_ | with_reducible refine wt_not ?_ | with_reducible refine wt_B ?_ | with_reducible refine wt_test ?_ | with_reducible refine wp_chain ?_ | with_reducible refine wp_andV ?_ | with_reducible refine wp_orV ?_ | with_reducible refine wp_notV ?_ | with_reducible refine wp_if ?_ | with_reducible refine wp_int ?_ | with_reducible refine wp_var (by with_unfolding_all rfl) ?_ | with_reducible refine wp_str ?_ | with_reducible refine wp_bl ?_ | with_reducible refine wp_non ?_ | with_reducible refine wp_ref ?_ | with_reducible refine wp_op ?_ | with_reducible refine wp_tup' ?_ | with_reducible refine wp_lst' ?_ | with_reducible refine wa_cons ?_ | with_reducible refine wa_nil ?_ | with_reducible refine wp_sl ?_ | with_reducible refine wo_none ?_ | with_reducible refine wo_some ?_ | with_reducible refine wp_isi' (by simp) ?_ | with_reducible refine wp_allIn (by with_unfolding_all rfl) (by assumption) (by with_unfolding_all exact of_decide_eq_true rfl) (by with_unfolding_all rfl) ?_ | with_reducible refine wp_cb ?_ | with_reducible refine wp_m1 ?_ | with_reducible refine rs_T1 ?_ | with_reducible refine rs_T' (by with_unfolding_all rfl) (by with_unfolding_all rfl) ?_ | with_reducible refine wi_list ?_ | with_reducible refine wi_tup ?_ | with_reducible refine wi_str ?_ | with_reducible refine wi_rng1 ?_ | with_reducible refine wi_rng2 ?_ | with_reducible refine wi_zipT ?_ | with_reducible refine wi_zipM ?_ | with_reducible refine wi_enum ?_ | with_reducible refine rd_ib ?_ | with_reducible refine rd_ii ?_ | with_reducible refine rd_inSg ?_ | with_reducible refine rd_mod (by first | assumption | decide) ?_ | with_reducible refine rd_mul (cmul_r (by decide +kernel)) ?_ | with_reducible refine rd_mul (cmul_l (by decide +kernel)) ?_ | with_reducible refine rc_max ?_ | with_reducible refine rc_min ?_ | with_reducible refine rd_eqI ?_ | with_reducible refine rd_neI ?_ | with_reducible refine rd_eqS (by first | assumption | decide +kernel) (by first | assumption | decide +kernel) ?_ | with_reducible refine rd_neS (by first | assumption | decide +kernel) (by first | assumption | decide +kernel) ?_ | with_reducible refine rd_iC (cpow_ok (by with_unfolding_all rfl)) ?_ | with_reducible refine rd_isN' (b := true) (by with_unfolding_all rfl) ?_ | with_reducible refine rd_isN' (b := false) (by with_unfolding_all rfl) ?_ | with_reducible refine rd_notN' (b := true) (by with_unfolding_all rfl) ?_ | with_reducible refine rd_notN' (b := false) (by with_unfolding_all rfl) ?_ | with_reducible refine rc_len (by first | assumption | with_unfolding_all rfl) ?_ | with_reducible refine rd_ixT0 ?_ | with_reducible refine rd_ixL0 ?_ | with_reducible refine rd_ixT (by first | assumption | with_unfolding_all rfl) ?_ | with_reducible refine rd_ixL (by first | assumption | with_unfolding_all rfl) ?_ | with_reducible refine wp_callF ?_ | with_reducible refine rc_tupL ?_ | with_reducible refine rc_strS ?_ | with_reducible refine rc_all ?_ | with_reducible refine L2.iteT ?_ | with_reducible refine ite_dT (by with_unfolding_all exact of_decide_eq_true rfl) ?_ | with_reducible refine ite_dF (by with_unfolding_all exact of_decide_eq_false rfl) ?_ | with_reducible refine ite_ndT (by with_unfolding_all exact of_decide_eq_true rfl) ?_ | with_reducible refine ite_ndF (by with_unfolding_all exact of_decide_eq_false rfl) ?_ | with_reducible refine L2.iteF ?_ | with_reducible refine ite_nt ?_ | with_reducible refine ite_nf ?_ | refine ⟨_, true, rfl, rfl, ?_⟩ | refine ⟨_, false, rfl, rfl, ?_⟩ | with_reducible refine ⟨_, rfl, ?_⟩ | with_reducible refine ⟨_, _, rfl, ?_⟩ | with_reducible refine And.intro (by first | assumption | exact trivial | with_unfolding_all exact of_decide_eq_true rfl) ?_ | with_reducible refine And.intro Mode.Sub.no ?_ | with_reducible refine ⟨_, (by with_unfolding_all rfl), (by with_unfolding_all exact of_decide_eq_true rfl), ?_⟩))
local macro_rules | `(tactic| fail "w") => `(tactic| (first | with_reducible refine wp_neg ?_ | with_reducible refine wp_pick ?_ | with_reducible refine wp_draw ?_ | with_reducible refine ws_seq ?_ | with_reducible refine ws_nx ?_ | with_reducible refine ws_set ?_ | with_reducible refine ws_ret ?_ | with_reducible refine ws_if ?_ | with_reducible refine ws_drop ?_ | with_reducible refine wt_or ?_ | with_reducible refine wt_and ?_ | with_reducible refine wt_not ?_ | with_reducible refine wt_B ?_ | with_reducible refine wt_test ?_ | with_reducible refine wp_chain ?_ | with_reducible refine wp_andV ?_ | with_reducible refine wp_orV ?_ | with_reducible refine wp_notV ?_ | with_reducible refine wp_if ?_ | with_reducible refine wp_int ?_ | with_reducible refine wp_var (by with_unfolding_all rfl) ?_ | with_reducible refine wp_str ?_ | with_reducible refine wp_bl ?_ | with_reducible refine wp_non ?_ | with_reducible refine wp_ref ?_ | with_reducible refine wp_op ?_ | with_reducible refine wp_tup' ?_ | with_reducible refine wp_lst' ?_ | with_reducible refine wa_cons ?_ | with_reducible refine wa_nil ?_ | with_reducible refine wp_sl ?_ | with_reducible refine wo_none ?_ | with_reducible refine wo_some ?_ | with_reducible refine wp_isi' (by simp) ?_ | with_reducible refine wp_allIn (by with_unfolding_all rfl) (by assumption) (by with_unfolding_all exact of_decide_eq_true rfl) (by with_unfolding_all rfl) ?_ | with_reducible refine wp_cb ?_ | with_reducible refine wp_m1 ?_ | with_reducible refine rs_T1 ?_ | with_reducible refine rs_T' (by with_unfolding_all rfl) (by with_unfolding_all rfl) ?_ | with_reducible refine wi_list ?_ | with_reducible refine wi_tup ?_ | with_reducible refine wi_str ?_ | with_reducible refine wi_rng1 ?_ | with_reducible refine wi_rng2 ?_ | with_reducible refine wi_zipT ?_ | with_reducible refine wi_zipM ?_ | with_reducible refine wi_enum ?_ | with_reducible refine rd_ib ?_ | with_reducible refine rd_ii ?_ | with_reducible refine rd_inSg ?_ | with_reducible refine rd_mod (by first | assumption | decide) ?_ | with_reducible refine rd_mul (cmul_r (by decide +kernel)) ?_ | with_reducible refine rd_mul (cmul_l (by decide +kernel)) ?_ | with_reducible refine rc_max ?_ | with_reducible refine rc_min ?_ | with_reducible refine rd_eqI ?_ | with_reducible refine rd_neI ?_ | with_reducible refine rd_eqS (by first | assumption | decide +kernel) (by first | assumption | decide +kernel) ?_ | with_reducible refine rd_neS (by first | assumption | decide +kernel) (by first | assumption | decide +kernel) ?_ | with_reducible refine rd_iC (cpow_ok (by with_unfolding_all rfl)) ?_ | with_reducible refine rd_isN' (b := true) (by with_unfolding_all rfl) ?_ | with_reducible refine rd_isN' (b := false) (by with_unfolding_all rfl) ?_ | with_reducible refine rd_notN' (b := true) (by with_unfolding_all rfl) ?_ | with_reducible refine rd_notN' (b := false) (by with_unfolding_all rfl) ?_ | with_reducible refine rc_len (by first | assumption | with_unfolding_all rfl) ?_ | with_reducible refine rd_ixT0 ?_ | with_reducible refine rd_ixL0 ?_ | with_reducible refine rd_ixT (by first | assumption | with_unfolding_all rfl) ?_ | with_reducible refine rd_ixL (by first | assumption | with_unfolding_all rfl) ?_ | with_reducible refine wp_callF ?_ | with_reducible refine rc_tupL ?_ | with_reducible refine rc_strS ?_ | with_reducible refine rc_all ?_ | with_reducible refine L2.iteT ?_ | with_reducible refine ite_dT (by with_unfolding_all exact of_decide_eq_true rfl) ?_ | with_reducible refine ite_dF (by with_unfolding_all exact of_decide_eq_false rfl) ?_ | with_reducible refine ite_ndT (by with_unfolding_all exact of_decide_eq_true rfl) ?_ | with_reducible refine ite_ndF (by with_unfolding_all exact of_decide_eq_false rfl) ?_ | with_reducible refine L2.iteF ?_ | with_reducible refine ite_nt ?_ | with_reducible refine ite_nf ?_ | refine ⟨_, true, rfl, rfl, ?_⟩ | refine ⟨_, false, rfl, rfl, ?_⟩ | with_reducible refine ⟨_, rfl, ?_⟩ | with_reducible refine ⟨_, _, rfl, ?_⟩ | with_reducible refine And.intro (by first | assumption | exact trivial | with_unfolding_all exact of_decide_eq_true rfl) ?_ | with_reducible refine And.intro Mode.Sub.no ?_ | with_reducible refine ⟨_, (by with_unfolding_all rfl), (by with_unfolding_all exact of_decide_eq_true rfl), ?_⟩))
open PySem PySem.Spec PyProof.Rows L2
theorem letter_some (l : Letter) : isNone l.D = false := rfl
theorem claim_some (c : Claim) : isNone c.D = false := rfl
/-- words as they are drawn and changed -/
structure WOk (n : Nat) (ws : List Str) : Prop where
  lo : 1 ≤ ws.length
  hi : ws.length ≤ n
  ok : ∀ z ∈ ws, GW z
abbrev readA (z : Str) : Prop := z.length ≤ 90000 ∧ okS z = true ∧ (∀ y ∈ wordsOf z, Sm y) ∧ (wordsOf z).length ≤ 500
abbrev DueL (z : Str) (ws : List Str) : Option Letter → Prop := Due Letter.D (fun l => l.Ok ∧ letterB l = true ∧ l.Nums ∧ ∀ z ∈ shownL l, z.length ≤ 1000) (fun l => Txt.join " " (shownL l)) (fun z y => ∃ l, readL (wordsOf z) = some l ∧ y = l.D) (fun z => readL (wordsOf z) = none) z ws
abbrev DueC (z : Str) (ws : List Str) : Option Claim → Prop := Due Claim.D (fun c => c.Ok ∧ (∀ p ∈ c.parts, p.1.Num) ∧ ∀ z ∈ shownC c, z.length ≤ 1000) (fun c => Txt.join " " (shownC c)) (fun z y => ∃ c, readC (wordsOf z) = some c ∧ y = c.D) (fun z => readC (wordsOf z) = none) z ws
/-- what is left to be shown of texts alone -/
structure PlainK : Prop where
  text : ∀ (ws : List Str) (l : List Nat) (z : Str) (n : Nat), WOk 60 ws → Txd ws l → TL.tl z = l ++ blanks n → wordsOf z = ws
  letter : ∀ (ws : List Str) (z : Str), WOk 60 ws → wordsOf z = ws → DueL z ws (dueM ws)
  claim : ∀ (ws : List Str) (z : Str), WOk 60 ws → wordsOf z = ws → ∃ o, claimDueD ws = optG Claim.D o ∧ DueC z ws o
  lw : ∀ l : LL, l.Good → WOk 42 (lwords l)
  cw : ∀ (z : Str) (ps : List Part), CParts z ps → WOk 42 (z :: ps.map lawP)
theorem sum_len {ws : List Str} {m : Nat} (h : ∀ z ∈ ws, z.length ≤ m) : (ws.map (·.length)).sum ≤ m * ws.length := by
  induction ws with
  | nil => simp
  | cons a r ih =>
    have h1 := ih fun z hz => h z (List.mem_cons_of_mem _ hz)
    have h2 := h a List.mem_cons_self
    rw [List.map_cons, List.sum_cons, List.length_cons, Nat.mul_succ]
    omega
theorem blanks_ok {n c : Nat} (h : c ∈ blanks n) : c < 0x110000 := by
  have := List.eq_of_mem_replicate h
  omega
theorem txd_ok {ws : List Str} {l : List Nat} (h : Txd ws l) (hw : ∀ z ∈ ws, okS z = true) : ∀ c ∈ l, c < 0x110000 := by
  induction h with
  | nil n => exact fun c hc => blanks_ok hc
  | @snoc ws l z n h1 h2 ih =>
    intro c hc
    rcases List.mem_append.mp hc with hc | hc
    · rcases List.mem_append.mp hc with hc | hc
      · exact ih (fun z hz => hw z (List.mem_append_left _ hz)) c hc
      · exact blanks_ok hc
    · exact (okS_iff z).mp (hw z (List.mem_append_right _ (List.mem_singleton_self _))) c hc
theorem text_ok {ws : List Str} {l : List Nat} {z : Str} {n : Nat} (h : Txd ws l) (e : TL.tl z = l ++ blanks n) (hw : ∀ z ∈ ws, okS z = true) : okS z = true := (okS_iff z).mpr fun c hc => by
  rw [e] at hc
  rcases List.mem_append.mp hc with hc | hc
  · exact txd_ok h hw c hc
  · exact blanks_ok hc
theorem optL_eq (o : Option Letter) : optL o = optG Letter.D o := by cases o <;> rfl
theorem GW.sm {z : Str} (h : GW z) : Sm z := ⟨by have := h.len; omega, h.ok⟩
section
variable {P : Program} {w : World} {K : PySem.W.Frag} {mg : Str → Option Value} {base : Heap}
abbrev N_law : List Str := ["_law_script", "_law_k", "_law_left_here", "_law_words", "_law_turn", "_law_text_here"]
abbrev P_law : List Str := ["_law_script"]
theorem sc_law : FnScope N_law P_law (defScope s_law) := ⟨rfl, rfl, rfl, by decide +kernel, rfl, by decide +kernel, by decide +kernel⟩
abbrev sp_law (K : PySem.W.Frag) : Sp := spD K (CN K) (fun p : Addr × List Int => Mode.scr K p.1 p.2) (fun p => [.r p.1]) (fun p => p.2.length ≤ 1000) (fun _ y => y = .bool true) (fun _ => False)
theorem fnOk_of {x qual : Str} {params : Arguments} {body : List Stmt} {scope : Scope} {f : Addr} {fd : FuncData} {N ps : List Str} {k : Nat} {α : Type} {M : α → Mode} {arg : α → List Dv} {A : α → Prop} {Pm : α → PyData → Prop} {Xm : α → Prop}
    (F : FunD K x qual params body scope [] [] f fd) (S : FnScope N ps scope) (hA : ∀ a, A a → (arg a).length = ps.length)
    (h : ∀ (cdv : Value) (A' : Around) (outer : List Env) (s : Shared) (H : Hp) (E : XK), Room k (A'.deeper (envOfC qual scope s.heap.objs.size f cdv)) → ∀ a, A a →
      ∃ t, PSs (cxOf (L2.CX P w) P w K mg base N qual scope f cdv A' outer s H E) body t ∧ WpS ⟨K, M a, E, CN K⟩ t (startD N (arg a)) ⟨fun _ => Pm a .none, fun d => ∃ y, d = .d y ∧ Pm a y, Xm a⟩) :
    FnOk P w K mg base (L2.CX P w) (k + 1) f fd ps (spD K (CN K) M arg A Pm Xm) :=
  F.ok S (sp_len hA) fun cdv A' outer s H vs Q E hr hs => by
    obtain ⟨a, G, Pr, ha, hv, v, hq, hx⟩ := hs
    obtain ⟨t, ht, hw⟩ := h cdv A' outer s H E hr a ha
    refine ⟨t, ht, hw Pr G H _ v (sl_start hv) _ (fun ss' σ' G' H' hp g _ => hq .none .non G' H' hp g .non) (fun d w G' H' ⟨y, ed, hp⟩ g rd => ?_) fun z dd fs H' k hd => hx z dd fs H' k hd⟩
    subst ed
    exact hq y w G' H' hp g rd
theorem ok_law (W : Wd w K mg) (T : PlainK) {fd : FuncData} (F : FunD K "law" "law" (defArgs s_law) (defBody s_law) (defScope s_law) [] [] (He.ga K "law") fd) : FnOk P w K mg base (L2.CX P w) 9 (He.ga K "law") fd P_law (sp_law K) := by
  refine fnOk_of F sc_law (fun _ _ => rfl) fun cdv A' outer s H E hr ⟨a, xs⟩ hx => ⟨_, (pss_cons (ps_for (passes_of rfl) rfl (pi_range1 rfl W.f_range (pa_cons (pe_op op_add pe_int (pe_callB (call_min2b rfl) rfl W.f_min PyProof.Rows.Boot.«min» (pa_cons pe_int (pa_cons (pe_callB (callK rLenD K call_lenD2) rfl W.f_len PyProof.Rows.Boot.«len» (pa_cons (pv 0) pa_nil)) pa_nil)))) pa_nil)) (pg_name (i := 1) sc_law.nd rfl (Or.inl rfl)) (pss_cons (ps_set (i := 2) sc_law.nd rfl (Or.inl rfl) (pe_callI (ok_law_left W) hr W.g_law_left passL (pa_cons (pv 0) (pa_cons (pv 1) pa_nil))))
      (pss_cons (ps_set (i := 3) sc_law.nd rfl (Or.inl rfl) (pe_callI (ok_law_letter_words W) hr W.g_law_letter_words passL (pa_cons (pe_callI (ok_law_letter W) hr W.g_law_letter passL (pa_cons (pv 2) pa_nil)) pa_nil)))
      (pss_cons (ps_if (pt_cmpR (opK rEqD K (op_eqD hr.units)) (pe_callI (ok_law_pick W) hr W.g_law_pick passL (pa_cons (pv 2) (pa_cons pe_int pa_nil))) pe_int (nomark _)) (pss_one (ps_set (i := 3) sc_law.nd rfl (Or.inl rfl) (pe_callI (ok_law_claim_words W) hr W.g_law_claim_words passL (pa_cons (pe_callI (ok_law_claim W) hr W.g_law_claim passL (pa_cons (pv 2) pa_nil)) pa_nil)))) pss_nil)
      (pss_cons (ps_for (passes_of rfl) rfl (pi_range1 rfl W.f_range (pa_cons (pe_callI (ok_law_pick W) hr W.g_law_pick passL (pa_cons (pv 2) (pa_cons pe_int pa_nil))) pa_nil)) (pg_name (i := 4) sc_law.nd rfl (Or.inl rfl)) (pss_one (ps_set (i := 3) sc_law.nd rfl (Or.inl rfl) (pe_callI (ok_law_changed W) hr W.g_law_changed passL (pa_cons (pv 2) (pa_cons (pv 3) pa_nil))))))
      (pss_cons (ps_set (i := 5) sc_law.nd rfl (Or.inl rfl) (pe_callI (ok_law_text W) hr W.g_law_text passL (pa_cons (pv 2) (pa_cons (pv 3) pa_nil))))
      (pss_cons (ps_if (pt_not (pt_val (pe_callI (ok_law_right W (by decide) (by decide) letter_some (ok_read_letter W) (ok_shown_letter W)) hr W.g_law_right passL (pa_cons (pe_glob (v := .ref (He.ga K "read_letter")) rfl W.g_read_letter rfl) (pa_cons (pe_glob (v := .ref (He.ga K "shown_letter")) rfl W.g_shown_letter rfl) (pa_cons (pv 5) (pa_cons (pv 3) (pa_cons (pe_callI (ok_law_due W) hr W.g_law_due passL (pa_cons (pv 3) pa_nil)) pa_nil)))))))) (pss_one (ps_ret pe_bl)) pss_nil)
      (pss_one (ps_if (pt_not (pt_val (pe_callI (ok_law_right W (by decide) (by decide) claim_some (ok_read_claim W) (ok_shown_claim W)) hr W.g_law_right passL (pa_cons (pe_glob (v := .ref (He.ga K "read_claim")) rfl W.g_read_claim rfl) (pa_cons (pe_glob (v := .ref (He.ga K "shown_claim")) rfl W.g_shown_claim rfl) (pa_cons (pv 5) (pa_cons (pv 3) (pa_cons (pe_callI (ok_law_claim_due W) hr W.g_law_claim_due passL (pa_cons (pv 3) pa_nil)) pa_nil)))))))) (pss_one (ps_ret pe_bl)) pss_nil)))))))))
      (pss_one (ps_ret pe_bl))), ?_⟩
  show WpS ⟨K, Mode.scr K a xs, E, CN K⟩ _ _ _
  have hx : xs.length ≤ 1000 := hx
  try dsimp only [cxOf, Cx.blk, Cx.blkE]
  refine fs_one (Γ := ⟨K, E, CN K⟩) (M := Mode.scr K a xs) ?_
  refine fs_seq (fs_forM (M := Mode.scr K a xs) (vs := [1]) .refl ?_)
  repeat fail "w"
  refine rc_lenS ?_
  repeat fail "w"
  have hb : ∀ v : Int, v = (if (xs.length : Int) < 15 then (xs.length : Int) else 15) → 0 ≤ v ∧ v ≤ 15 := fun v e => by
    rw [e]
    split <;> omega
  generalize hv : (if (xs.length : Int) < 15 then (xs.length : Int) else 15) = v at *
  obtain ⟨hv0, hv1⟩ := hb v rfl
  refine ⟨by omega, by omega, fun _ s1 _ => ∃ x1 x2 x3 x4 x5, s1 = [some (.r a), x1, x2, x3, x4, x5], ⟨none, none, none, none, none, rfl⟩, fun i d s1 c1 hi hI => ?_, fun s1 c1 hI => ?_⟩
  · obtain ⟨x1, x2, x3, x4, x5, rfl⟩ := hI
    obtain ⟨y, hy, rfl⟩ := get_d hi
    have hir : i < (1 + v).toNat := by
      have := (List.getElem?_eq_some_iff.mp hy).1
      simpa [rangeD] using this
    obtain rfl : y = .int (i : Int) := by
      unfold rangeD at hy
      rw [List.getElem?_map, List.getElem?_range hir] at hy
      have hy' := Option.some.inj hy
      rw [← hy']
      simp
    refine ⟨_, tgt_name (by decide), ?_⟩
    refine fs_lift (M := Mode.scr K a xs) .refl (ws_left (Γ := ⟨K, E, CN K⟩) (a := a) (ns := xs) ?_)
    repeat fail "w"
    refine ⟨by omega, fun l => ?_⟩
    let S : List Str → Option Dv → Option Dv → Sd := fun ws u v => [some (.r a), some (.d (.int (i : Int))), some (.r l), some (.d (.list (ws.map PyData.str))), u, v]
    refine ws_midT (fun s1 => ∃ ws, WOk 42 ws ∧ s1 = S ws x4 x5) ?_ ?_
    · refine ws_set ?_
      repeat fail "i"
      refine ⟨rfl, fun y ⟨ll, ey, hg⟩ => ?_⟩
      subst ey
      repeat fail "i"
      exact ⟨lwords ll, T.lw ll hg, rfl⟩
    rintro _ ⟨ws, hws, rfl⟩
    refine ws_midT (fun s1 => ∃ ws, WOk 42 ws ∧ s1 = S ws x4 x5) (ws_ifB True True ?_ (fun _ => ?_) (fun _ => ws_nx ⟨ws, hws, rfl⟩)) ?_
    · repeat fail "i"
      intro n n0 n1
      repeat fail "i"
      exact ⟨fun _ => trivial, fun _ => trivial⟩
    · repeat fail "i"
      refine ⟨rfl, fun y ⟨z, ps, ey, hg⟩ => ?_⟩
      subst ey
      repeat fail "i"
      refine ⟨(z, ps), rfl, hg, z :: ps.map lawP, T.cw z ps hg, ?_⟩
      rfl
    clear hws ws
    rintro _ ⟨ws, hws, rfl⟩
    refine ws_midT (fun s1 => ∃ ws x4, WOk 60 ws ∧ s1 = S ws x4 x5) (fs_one (Γ := ⟨K, E, CN K⟩) (M := Mode.draws l) (fs_forM (M := Mode.draws l) (vs := [4]) .refl ?_)) ?_
    · repeat fail "i"
      intro n n0 n1
      repeat fail "i"
      refine ⟨by omega, by omega, fun j s1 _ => ∃ ws x4, WOk (42 + j) ws ∧ s1 = S ws x4 x5, ⟨ws, x4, hws, rfl⟩, fun j d s1 c1 hj hJ => ?_, fun s1 c1 hJ => ?_⟩
      · obtain ⟨ws, x4, hws, rfl⟩ := hJ
        have hj6 : j < 6 := by
          have := (List.getElem?_eq_some_iff.mp hj).1
          have h2 : j < n.toNat := by simpa [rangeD] using this
          omega
        refine ⟨_, tgt_name (by decide), ?_⟩
        refine fs_lift (M := Mode.draws l) .refl (ws_set (wp_call (.inr fun _ z => z) ?_))
        repeat fail "i"
        have hlo := hws.lo
        have hhi := hws.hi
        refine ⟨(l, ws), rfl, ⟨⟨hlo, by show ws.length ≤ 500; omega⟩, hws.ok⟩, .refl, fun y ⟨ws', ey, ⟨l1, l2⟩, hg⟩ => ?_, fun z => z.elim⟩
        subst ey
        refine ⟨ws', _, ⟨l1, ?_, hg⟩, rfl⟩
        have l2' : ws'.length ≤ ws.length + 1 := l2
        omega
      · obtain ⟨ws, x4, hws, rfl⟩ := hJ
        have hh : ((rangeD 0 n.toNat).map Dv.d).length = n.toNat := by simp [rangeD]
        rw [hh] at hws
        exact ⟨ws, x4, ⟨hws.lo, by have := hws.hi; omega, hws.ok⟩, rfl⟩
    rintro _ ⟨ws, x4, hws, rfl⟩
    refine ws_midT (fun s1 => ∃ z l n, Txd ws l ∧ TL.tl z = l ++ blanks n ∧ z.length ≤ 90000 ∧ s1 = S ws x4 (some (.d (.str z)))) (ws_set (wp_call (.inr fun _ z => z) ?_)) ?_
    · repeat fail "i"
      refine ⟨(l, ws), rfl, ⟨hws.hi, hws.ok⟩, .refl, fun y ⟨z, tl, tn, ey, q1, q2, q3⟩ => ?_, fun z => z.elim⟩
      subst ey
      exact ⟨z, tl, tn, q1, q2, q3, rfl⟩
    rintro _ ⟨z, tl, tn, ht1, ht2, ht3, rfl⟩
    have hwz : wordsOf z = ws := T.text ws tl z tn hws ht1 ht2
    have hoz : okS z = true := text_ok ht1 ht2 fun y hy => (hws.ok y hy).ok
    have hA : readA z := ⟨ht3, hoz, by rw [hwz]; exact fun y hy => (hws.ok y hy).sm, by rw [hwz]; have := hws.hi; omega⟩
    have hsum : (∀ z ∈ ws, okS z = true) ∧ (ws.map (·.length)).sum + ws.length ≤ 100000 := ⟨fun y hy => (hws.ok y hy).ok, by
      have h1 := sum_len (m := 60) fun y hy => (hws.ok y hy).len
      have h2 := hws.hi
      omega⟩
    have hsm : (∀ z ∈ ws, Sm z) ∧ ws.length ≤ 500 := ⟨fun y hy => (hws.ok y hy).sm, by have := hws.hi; omega⟩
    have hdl := T.letter ws z hws hwz
    obtain ⟨o, eo, hdc⟩ := T.claim ws z hws hwz
    refine ws_midT (fun s1 => s1 = S ws x4 (some (.d (.str z)))) (ws_ifB False True ?_ (fun h => h.elim) (fun _ => ws_nx rfl)) ?_
    · repeat fail "i"
      rw [optL_eq]
      exact ⟨(z, ws, dueM ws), rfl, ⟨hA, hsum, hdl⟩, _, rfl, .no trivial⟩
    rintro _ rfl
    refine ws_ifB False True ?_ (fun h => h.elim) (fun _ => ws_nx ⟨_, _, _, _, _, rfl⟩)
    · repeat fail "i"
      rw [eo]
      exact ⟨(z, ws, o), rfl, ⟨hA, hsum, hdc⟩, _, rfl, .no trivial⟩
  · obtain ⟨x1, x2, x3, x4, x5, rfl⟩ := hI
    refine fs_lift (M := Mode.scr K a xs) .refl ?_
    repeat fail "w"
    rfl
end
end K84

/-! part K84PA -/
set_option maxHeartbeats 1000000
/-! K84PA: plain: texts, words, numbers. -/
namespace K84
open PySem TL
/-! ### a text's words -/
theorem spl_word (l : List Nat) (h : 32 ∉ l) : ∀ acc r, spl [32] 0 acc (l ++ r) = spl [32] 0 (acc ++ l) r := by
  induction l with
  | nil => intro acc r; simp
  | cons c l ih =>
    intro acc r
    have hc : c ≠ 32 := fun z => h (by rw [z]; exact List.mem_cons_self)
    rw [List.cons_append, spl1_cons, if_neg hc, ih (fun z => h (List.mem_cons_of_mem _ z))]
    simp
theorem spl_blank (acc r : List Nat) : ∀ n, spl [32] 0 acc (blanks (n + 1) ++ r) = acc :: (List.replicate n [] ++ spl [32] 0 [] r)
  | 0 => by
    show spl [32] 0 acc (32 :: r) = _
    rw [spl1_cons, if_pos rfl]
    rfl
  | n + 1 => by
    have ih := spl_blank [] r n
    show spl [32] 0 acc (32 :: (blanks (n + 1) ++ r)) = _
    rw [spl1_cons, if_pos rfl, ih]
    rfl
def ne0 (p : List Nat) : Bool := !p.isEmpty
theorem ne0_reps (n : Nat) : (List.replicate n ([] : List Nat)).filter ne0 = [] := by
  induction n with
  | zero => rfl
  | succ n ih =>
    rw [List.replicate_succ, List.filter_cons]
    exact ih
theorem tl_ne {z : Str} (h : z ≠ "") : ne0 (tl z) = true := by
  cases e : tl z with
  | nil => exact absurd (nil_str.mp e) h
  | cons c r => rfl
theorem txd_spl {ws : List Str} {l : List Nat} (h : Txd ws l) (hw : ∀ z ∈ ws, z ≠ "" ∧ 32 ∉ tl z) : ∃ D a, (∀ r, spl [32] 0 [] (l ++ r) = D ++ spl [32] 0 a r) ∧ (D ++ [a]).filter ne0 = ws.map tl ∧ (ws = [] → a = []) := by
  induction h with
  | nil n =>
    cases n with
    | zero => exact ⟨[], [], fun r => rfl, rfl, fun _ => rfl⟩
    | succ n =>
      refine ⟨[] :: List.replicate n [], [], fun r => by rw [spl_blank]; rfl, ?_, fun _ => rfl⟩
      rw [List.filter_append]
      show (List.replicate (n + 1) ([] : List Nat)).filter ne0 ++ [] = []
      rw [ne0_reps]
      rfl
  | @snoc ws l z n h1 h2 ih =>
    obtain ⟨D, a, e1, e2, e3⟩ := ih fun y hy => hw y (List.mem_append_left _ hy)
    obtain ⟨z1, z2⟩ := hw z (List.mem_append_right _ (List.mem_singleton_self _))
    cases n with
    | zero =>
      have h0 : ws = [] := h2.elim id fun q => absurd q (by omega)
      subst h0
      have ea := e3 rfl
      subst ea
      refine ⟨D, tl z, fun r => ?_, ?_, fun q => absurd q (by simp)⟩
      · have e : l ++ blanks 0 ++ tl z ++ r = l ++ (tl z ++ r) := by simp [blanks]
        rw [e, e1, spl_word _ z2]
        rfl
      · rw [List.filter_append] at e2 ⊢
        have e2' : D.filter ne0 = [] := (List.append_eq_nil_iff.mp e2).1
        rw [e2', List.filter_cons, tl_ne z1]
        rfl
    | succ n =>
      refine ⟨D ++ a :: List.replicate n [], tl z, fun r => ?_, ?_, fun q => absurd q (by simp)⟩
      · have e : l ++ blanks (n + 1) ++ tl z ++ r = l ++ (blanks (n + 1) ++ (tl z ++ r)) := by simp
        rw [e, e1, spl_blank, spl_word _ z2]
        simp
      · have e : D ++ a :: List.replicate n [] ++ [tl z] = (D ++ [a]) ++ (List.replicate n [] ++ [tl z]) := by simp
        rw [e, List.filter_append, e2, List.filter_append, ne0_reps, List.filter_cons, tl_ne z1, List.map_append]
        rfl
theorem filter_tl (l : List Str) : (l.filter fun (p : Str) => !decide (p = "")).map tl = (l.map tl).filter ne0 := by
  induction l with
  | nil => rfl
  | cons z l ih =>
    rw [List.map_cons, List.filter_cons, List.filter_cons]
    by_cases h : z = ""
    · have e : ne0 (tl z) = false := by rw [h]; rfl
      rw [decide_eq_true h, e]
      exact ih
    · rw [decide_eq_false h, tl_ne h]
      show tl z :: (l.filter fun (p : Str) => !decide (p = "")).map tl = tl z :: (l.map tl).filter ne0
      rw [ih]
theorem map_tl_inj : ∀ {a b : List Str}, a.map tl = b.map tl → a = b
  | [], [], _ => rfl
  | [], _ :: _, h => by cases h
  | _ :: _, [], h => by cases h
  | x :: a, y :: b, h => by
    rw [List.map_cons, List.map_cons] at h
    injection h with h1 h2
    rw [ext_tl h1, map_tl_inj h2]
theorem words_text {ws : List Str} {l : List Nat} {z : Str} {n : Nat} (hw : ∀ z ∈ ws, GW z) (h : Txd ws l) (e : tl z = l ++ blanks n) : wordsOf z = ws := by
  obtain ⟨D, a, e1, e2, _⟩ := txd_spl h fun y hy => ⟨(hw y hy).ne, (hw y hy).nb⟩
  refine map_tl_inj ?_
  unfold wordsOf
  rw [filter_tl, split1 z " " blank_tl (by decide), e, e1]
  cases n with
  | zero =>
    show (D ++ spl [32] 0 a []).filter ne0 = _
    rw [spl1_nil, e2]
  | succ n =>
    have q := spl_blank a [] n
    rw [List.append_nil] at q
    rw [q, spl1_nil]
    have e : D ++ a :: (List.replicate n [] ++ [[]]) = (D ++ [a]) ++ List.replicate (n + 1) [] := by
      rw [List.replicate_succ']
      simp
    rw [e, List.filter_append, e2, ne0_reps, List.append_nil]

/-! ### numbers -/
theorem num_back {z : Str} (h : numOk z = true) (hl : z.length ≤ 500) : numT (numVal z) = z := by
  obtain ⟨h1, h2, h3⟩ := numOk_parts h
  have hd := digits_of_figs h2
  have e := numVal_nat h hl
  refine ext_tl ?_
  rw [numT_tl (by rw [e]; exact Int.natCast_nonneg _), e, Int.toNat_natCast]
  have hne : tl z ≠ [] := fun q => h1 (nil_str.mp q)
  obtain ⟨c, r, hc⟩ : ∃ c r, tl z = c :: r := by
    cases q : tl z with
    | nil => exact absurd q hne
    | cons c r => exact ⟨c, r, rfl⟩
  have hcd : 48 ≤ c ∧ c ≤ 57 := hd c (by show c ∈ tl z; rw [hc]; exact List.mem_cons_self)
  have hcan : r.length = 0 ∨ ∃ c' r', tl z = c' :: r' ∧ 49 ≤ c' := by
    by_cases h48 : c = 48
    · have hz : z = "0" := h3 (by show (tl z).head? = some 48; rw [hc, h48]; rfl)
      refine .inl ?_
      have : tl z = [48] := by rw [hz]; decide +kernel
      rw [hc] at this
      injection this with _ q
      rw [q]
      rfl
    · exact .inr ⟨c, r, hc, by omega⟩
  have k := PySem.NumText.toDigits_digitsVal r.length (tl z) (by rw [hc]; rfl) hd hcan
  show numL (NumText.digitsVal (tl z)) = tl z
  unfold numL
  rw [k, List.map_map]
  have id' : ∀ l : List Nat, NumText.AllDigits l → l.map (Char.toNat ∘ Char.ofNat) = l := by
    intro l
    induction l with
    | nil => intro _; rfl
    | cons c l ih =>
      intro h
      rw [List.map_cons, ih fun d hd => h d (List.mem_cons_of_mem _ hd)]
      have hc := h c List.mem_cons_self
      have e : ∀ k, k < 58 → (Char.toNat ∘ Char.ofNat) k = k := by decide
      rw [e c (by omega)]
  exact id' _ hd
theorem digitsVal_lt : ∀ (l : List Nat) (acc : Nat), NumText.AllDigits l → l.foldl (fun acc c => acc * 10 + (c - 48)) acc < (acc + 1) * 10 ^ l.length
  | [], acc, _ => by simp
  | c :: l, acc, h => by
    have hc := h c List.mem_cons_self
    have ih := digitsVal_lt l (acc * 10 + (c - 48)) fun d hd => h d (List.mem_cons_of_mem _ hd)
    rw [List.foldl_cons, List.length_cons, Nat.pow_succ]
    refine Nat.lt_of_lt_of_le ih ?_
    have : acc * 10 + (c - 48) + 1 ≤ (acc + 1) * 10 := by omega
    calc (acc * 10 + (c - 48) + 1) * 10 ^ l.length ≤ ((acc + 1) * 10) * 10 ^ l.length := Nat.mul_le_mul_right _ this
      _ = (acc + 1) * (10 ^ l.length * 10) := by rw [Nat.mul_assoc, Nat.mul_comm 10]
theorem numVal_lt {z : Str} (h : numOk z = true) {k : Nat} (hl : z.length ≤ k) (hk : k ≤ 500) : 0 ≤ numVal z ∧ numVal z < 10 ^ k := by
  have e := numVal_nat h (by omega)
  obtain ⟨_, h2, _⟩ := numOk_parts h
  have q := digitsVal_lt z.cps.toList 0 (digits_of_figs h2)
  have q2 : NumText.digitsVal z.cps.toList < 10 ^ z.length := by
    have : z.cps.toList.length = z.length := Array.length_toList
    rw [this] at q
    simpa [NumText.digitsVal] using q
  have q3 : 10 ^ z.length ≤ 10 ^ k := Nat.pow_le_pow_right (by decide) hl
  rw [e]
  refine ⟨Int.natCast_nonneg _, ?_⟩
  have : NumText.digitsVal z.cps.toList < 10 ^ k := Nat.lt_of_lt_of_le q2 q3
  exact_mod_cast this
theorem whole60 {z : Str} (hl : z.length ≤ 60) (lo : Int) : wholeB z lo (10 ^ 60) = if numOk z = true ∧ lo ≤ numVal z then some (numVal z) else none := by
  unfold wholeB
  by_cases h : numOk z = true
  · have q := (numVal_lt h hl (by decide)).2
    have q' : numVal z ≤ 10 ^ 60 := by omega
    by_cases h2 : lo ≤ numVal z
    · rw [if_pos ⟨h, h2, q'⟩, if_pos ⟨h, h2⟩]
    · rw [if_neg fun x => h2 x.2.1, if_neg fun x => h2 x.2]
  · rw [if_neg fun x => h x.1, if_neg fun x => h x.1]
theorem numB_some {z : Str} {v : Int} (h : numB z = some v) : numOk z = true ∧ v = numVal z := by
  unfold numB at h
  split at h
  · rename_i q
    exact ⟨q, (Option.some.inj h).symm⟩
  · cases h
theorem numB_of {z : Str} (h : numOk z = true) : numB z = some (numVal z) := by
  unfold numB
  rw [if_pos h]
theorem whole_some {z : Str} {lo hi v : Int} (h : wholeB z lo hi = some v) : numOk z = true ∧ v = numVal z ∧ lo ≤ v ∧ v ≤ hi := by
  unfold wholeB at h
  split at h
  · rename_i q
    have e := Option.some.inj h
    subst e
    exact ⟨q.1, rfl, q.2.1, q.2.2⟩
  · cases h
end K84

/-! part K84PB -/
set_option maxHeartbeats 1000000
/-! K84PB: plain: colons, names, deeds. -/
namespace K84
open PySem TL L2
/-! ### colons -/
theorem tl_cut {z : Str} {lo hi : Option Int} : tl (cutS z lo hi) = ((tl z).drop (HT.sIx z.length 0 lo)).take (HT.sIx z.length z.length hi - HT.sIx z.length 0 lo) := by
  show ((z.cps.toList.drop (HT.sIx z.length 0 lo)).take (HT.sIx z.length z.length hi - HT.sIx z.length 0 lo)).toArray.toList = _
  rw [List.toList_toArray]
theorem colon_tl : tl ":" = [58] := by decide +kernel
theorem last_sign {z : Str} (h : z ≠ "") : ∃ (a : Str) (c : Nat), z = a ++ ⟨#[c]⟩ := by
  have hne : tl z ≠ [] := fun q => h (nil_str.mp q)
  refine ⟨⟨((tl z).dropLast).toArray⟩, (tl z).getLast hne, ext_tl ?_⟩
  rw [tl_append]
  show tl z = (tl z).dropLast.toArray.toList ++ [(tl z).getLast hne]
  rw [List.toList_toArray, List.dropLast_concat_getLast hne]
theorem cut_last (a : Str) (c : Nat) : cutS (a ++ ⟨#[c]⟩) none (some (-1)) = a := by
  have hl : (a ++ (⟨#[c]⟩ : Str)).length = a.length + 1 := by rw [len_app]; rfl
  refine ext_tl ?_
  rw [tl_cut, hl]
  have e : HT.sIx (a.length + 1) (a.length + 1) (some (-1)) = a.length := by
    show (if (-1 : Int) < 0 then ((-1 : Int) + ((a.length + 1 : Nat) : Int)).toNat else min (-1 : Int).toNat (a.length + 1)) = _
    rw [if_pos (by decide)]
    omega
  rw [e, sIx_none, List.drop_zero, Nat.sub_zero, tl_append, len_tl, List.take_left']
  rfl
theorem colon_last (a : Str) (c : Nat) : colonB (a ++ ⟨#[c]⟩) = decide (c = 58) := by
  have hl : (a ++ (⟨#[c]⟩ : Str)).length = a.length + 1 := by rw [len_app]; rfl
  have e : tl (cutS (a ++ (⟨#[c]⟩ : Str)) (some (-1)) none) = [c] := by
    rw [tl_cut, hl]
    have e : HT.sIx (a.length + 1) 0 (some (-1)) = a.length := by
      show (if (-1 : Int) < 0 then ((-1 : Int) + ((a.length + 1 : Nat) : Int)).toNat else min (-1 : Int).toNat (a.length + 1)) = _
      rw [if_pos (by decide)]
      omega
    rw [e, sIx_none, tl_append, len_tl, List.drop_left', Nat.add_sub_cancel_left]
    rfl
    rfl
  unfold colonB
  by_cases h : c = 58
  · subst h
    rw [decide_eq_true rfl]
    exact decide_eq_true (ext_tl (by rw [e, colon_tl]))
  · rw [decide_eq_false h]
    refine decide_eq_false fun q => h ?_
    rw [q, colon_tl] at e
    injection e with e _
    exact e.symm
theorem ends_last (a : Str) (c : Nat) : Txt.endswith (a ++ ⟨#[c]⟩) ":" = decide (c = 58) := by
  rw [PySem.W.KAf.ends_right (by show 1 ≤ 1; decide)]
  unfold PySem.Txt.endswith
  rw [StrLaws.subAt_eq]
  have e : (":" : Str).cps.toList = [58] := colon_tl
  rw [e]
  show (decide (0 + 1 ≤ 1) && (([c] : List Nat) == [58])) = decide (c = 58)
  by_cases h : c = 58
  · subst h
    rfl
  · simp [h]
theorem colon_ends (z : Str) : Txt.endswith z ":" = colonB z := by
  by_cases h : z = ""
  · rw [h]
    decide +kernel
  · obtain ⟨a, c, rfl⟩ := last_sign h
    rw [ends_last, colon_last]
theorem colon_split {z : Str} (h : colonB z = true) : z = cutS z none (some (-1)) ++ ":" := by
  by_cases h0 : z = ""
  · rw [h0] at h
    exact absurd h (by decide +kernel)
  · obtain ⟨a, c, rfl⟩ := last_sign h0
    rw [colon_last] at h
    have := of_decide_eq_true h
    subst this
    rw [cut_last]
    rfl
/-! ### names -/
theorem name_join {z a b c : Str} (h : Txt.split z "." = [a, b, c]) : tl z = tl a ++ [46] ++ tl b ++ [46] ++ tl c := by
  have e := split1 z "." dot_tl (by decide)
  rw [h] at e
  have j := spl1_join 46 (tl z) []
  rw [← e] at j
  simpa [joinL] using j.symm
theorem nameOf_cases {z : Str} {p : Nm} (h : nameOf z = some p) : ∃ a b c, Txt.split z "." = [a, b, c] ∧ numOk c = true ∧ p = (a, b, numVal c) := by
  unfold nameOf at h
  split at h
  · rename_i a b c e
    cases hn : numB c with
    | none =>
      rw [hn] at h
      cases h
    | some n =>
      rw [hn] at h
      obtain ⟨q1, q2⟩ := numB_some hn
      subst q2
      exact ⟨a, b, c, e, q1, (Option.some.inj h).symm⟩
  · cases h
theorem nameT_back {z : Str} {p : Nm} (hl : z.length ≤ 500) (h : nameOf z = some p) : nameT p = z := by
  obtain ⟨a, b, c, e, hc, rfl⟩ := nameOf_cases h
  have hcl : c.length ≤ 500 := by
    have := (split_mem (z := z) (y := ".") (p := c) dot_tl (by decide) (by rw [e]; simp)).1
    rw [len_tl] at hl ⊢
    omega
  refine ext_tl ?_
  unfold nameT
  rw [num_back hc hcl, tl_append, tl_append, tl_append, tl_append, dot_tl, name_join e]
theorem named_iff {z : Str} (hl : z.length ≤ 60) (p : Nm) : namedB (Txt.split z ".") = some p ↔ nameOf z = some p ∧ nameB p = true := by
  have hm : ∀ c : Str, c ∈ Txt.split z "." → c.length ≤ 60 := fun c hc => by
    have := (split_mem (z := z) (y := ".") (p := c) dot_tl (by decide) hc).1
    rw [len_tl] at hl ⊢
    omega
  have e0 : nameOf z = match Txt.split z "." with | [a, b, c] => (numB c).map fun n => (a, b, n) | _ => none := rfl
  rw [e0]
  generalize Txt.split z "." = parts at hm
  match parts, hm with
  | [], _ => exact ⟨fun h => (nomatch h), fun h => nomatch h.1⟩
  | [_], _ => exact ⟨fun h => (nomatch h), fun h => nomatch h.1⟩
  | [_, _], _ => exact ⟨fun h => (nomatch h), fun h => nomatch h.1⟩
  | _ :: _ :: _ :: _ :: _, _ => exact ⟨fun h => (nomatch h), fun h => nomatch h.1⟩
  | [a, b, c], hm =>
    have e1 : namedB [a, b, c] = if wordB a = true ∧ wordB b = true then (wholeB c 1 (10 ^ 60)).map fun n => (a, b, n) else none := rfl
    rw [e1, whole60 (hm c (by simp))]
    show _ ↔ (numB c).map (fun n => (a, b, n)) = some p ∧ _
    unfold numB
    constructor
    · intro h
      split at h
      · rename_i q
        split at h
        · rename_i q2
          have h' := Option.some.inj h
          subst h'
          refine ⟨by rw [if_pos q2.1]; rfl, ?_⟩
          unfold nameB
          show ((wordB a && wordB b) && decide (1 ≤ numVal c)) = true
          rw [q.1, q.2, decide_eq_true q2.2]
          rfl
        · cases h
      · cases h
    · rintro ⟨h1, h2⟩
      split at h1
      · rename_i q
        have h' := Option.some.inj h1
        subst h'
        unfold nameB at h2
        have h2' : ((wordB a && wordB b) && decide (1 ≤ numVal c)) = true := h2
        simp only [Bool.and_eq_true, decide_eq_true_eq] at h2'
        rw [if_pos h2'.1, if_pos ⟨q, h2'.2⟩]
        rfl
      · cases h1
/-! ### deeds -/
theorem whole_num (x : Str) (lo hi : Int) : wholeB x lo hi = (numB x).bind fun c => if lo ≤ c ∧ c ≤ hi then some c else none := by
  unfold wholeB numB
  by_cases h : numOk x = true
  · rw [if_pos h]
    show _ = if lo ≤ numVal x ∧ numVal x ≤ hi then some (numVal x) else none
    by_cases h2 : lo ≤ numVal x ∧ numVal x ≤ hi
    · rw [if_pos ⟨h, h2⟩, if_pos h2]
    · rw [if_neg fun q => h2 q.2, if_neg h2]
  · rw [if_neg fun q => h q.1, if_neg h]
    rfl
theorem clause_if (c : Int) : clauseB c = decide (0 ≤ c ∧ c ≤ 11) := by
  unfold clauseB
  by_cases h1 : 0 ≤ c <;> by_cases h2 : c ≤ 11 <;> simp [h1, h2]
theorem deedOf_say (r : List Str) : deedOf ("say" :: r) = some (.say r) := by
  unfold deedOf
  rw [if_pos (show (("say" :: r : List Str)).take 1 = (["say"] : List Str) from rfl)]
  rfl
theorem deedOf_hand (r : List Str) : deedOf ("hand" :: r) = if ("hand" :: r : List Str).length ≠ 4 ∨ ("hand" :: r : List Str).getD 2 "" ≠ "to" then none else (numB (("hand" :: r : List Str).getD 1 "")).map fun c => .hand c (("hand" :: r : List Str).getD 3 "") := by
  unfold deedOf
  have n1 : ¬ (("hand" :: r : List Str)).take 1 = (["say"] : List Str) := fun q => by
    have q' : ("hand" : Str) = "say" := by simpa using q
    exact absurd q' (by decide +kernel)
  rw [if_neg n1, if_pos (show (("hand" :: r : List Str)).take 1 = (["hand"] : List Str) from rfl)]
theorem deedOf_oth {a : Str} (r : List Str) (h1 : a ≠ "say") (h2 : a ≠ "hand") : deedOf (a :: r) = (r.mapM numB).map fun ns => .oth (some a) ns := by
  unfold deedOf
  rw [if_neg (show ¬ (a :: r).take 1 = (["say"] : List Str) from fun q => h1 (by simpa using q)), if_neg (show ¬ (a :: r).take 1 = (["hand"] : List Str) from fun q => h2 (by simpa using q))]
  rfl
abbrev ifD (d : Deed) : Option Deed := if deedB d = true then some d else none
theorem done_iff (ws : List Str) : doneM ws = (deedOf ws).bind ifD := by
  have sf : ¬ (("say" : Str) ∈ (["free", "ready", "quit"] : List Str)) := by decide +kernel
  have hf : ¬ (("hand" : Str) ∈ (["free", "ready", "quit"] : List Str)) := by decide +kernel
  have sd : ¬ (("say" : Str) = "do") := by decide +kernel
  have hd : ¬ (("hand" : Str) = "do") := by decide +kernel
  have sh : ¬ (("say" : Str) = "hand") := by decide +kernel
  have sj : ¬ (("say" : Str) = "join" ∨ ("say" : Str) = "note") := by decide +kernel
  have hj : ¬ (("hand" : Str) = "join" ∨ ("hand" : Str) = "note") := by decide +kernel
  match ws with
  | [] => rfl
  | [a] =>
    have e1 : doneM [a] = if a = "join" ∨ a = "note" then some (.oth (some a) []) else none := rfl
    rw [e1]
    by_cases h1 : a = "say"
    · subst h1
      rw [deedOf_say, if_neg sj]
      rfl
    · by_cases h2 : a = "hand"
      · subst h2
        rw [deedOf_hand, if_neg hj, if_pos (.inl (by decide))]
        rfl
      · rw [deedOf_oth _ h1 h2]
        show _ = if deedB (.oth (some a) []) = true then some (Deed.oth (some a) []) else none
        have e : deedB (.oth (some a) []) = decide (a = "join" ∨ a = "note") := rfl
        rw [e]
        by_cases h3 : a = "join" ∨ a = "note"
        · rw [if_pos h3, if_pos (decide_eq_true h3)]
        · rw [if_neg h3, if_neg (by simpa using h3)]
  | [a, x] =>
    have e1 : doneM [a, x] = if a = "say" ∧ wordB x = true then some (.say [x]) else (wholeB x 0 11).bind fun c => if a ∈ (["free", "ready", "quit"] : List Str) then some (.oth (some a) [c]) else none := rfl
    rw [e1]
    by_cases h1 : a = "say"
    · subst h1
      rw [deedOf_say]
      show _ = if wordB x = true then some (Deed.say [x]) else none
      by_cases h2 : wordB x = true
      · rw [if_pos ⟨rfl, h2⟩, if_pos h2]
      · rw [if_neg fun q => h2 q.2, if_neg h2]
        cases wholeB x 0 11 with
        | none => rfl
        | some c => (rw [Option.bind_some, if_neg sf]) <;> rfl
    · rw [if_neg fun q => h1 q.1]
      by_cases h2 : a = "hand"
      · subst h2
        rw [deedOf_hand, if_pos (.inl (show ¬ (2 = 4) by decide))]
        cases wholeB x 0 11 with
        | none => rfl
        | some c => (rw [Option.bind_some, if_neg hf]) <;> rfl
      · rw [deedOf_oth _ h1 h2, whole_num, List.mapM_cons, List.mapM_nil]
        cases numB x with
        | none => rfl
        | some c =>
          show ((if 0 ≤ c ∧ c ≤ 11 then some c else none).bind fun c => if a ∈ (["free", "ready", "quit"] : List Str) then some (Deed.oth (some a) [c]) else none) = if deedB (.oth (some a) [c]) = true then some (Deed.oth (some a) [c]) else none
          have e : deedB (.oth (some a) [c]) = (clauseB c && decide (a ∈ (["free", "ready", "quit"] : List Str))) := rfl
          rw [e, clause_if]
          by_cases h3 : 0 ≤ c ∧ c ≤ 11
          · rw [if_pos h3, decide_eq_true h3]
            show (if a ∈ (["free", "ready", "quit"] : List Str) then some (Deed.oth (some a) [c]) else none) = _
            by_cases h4 : a ∈ (["free", "ready", "quit"] : List Str)
            · rw [if_pos h4, decide_eq_true h4]
              rfl
            · rw [if_neg h4, decide_eq_false h4]
              rfl
          · rw [if_neg h3, decide_eq_false h3]
            rfl
  | [a, x, y] =>
    have e1 : doneM [a, x, y] = (wholeB x 0 11).bind fun c => if a = "do" then (wholeB y 0 8).map fun p => .oth (some a) [c, p] else none := rfl
    rw [e1]
    by_cases h1 : a = "say"
    · subst h1
      rw [deedOf_say]
      cases wholeB x 0 11 with
      | none => rfl
      | some c => (rw [Option.bind_some, if_neg sd]) <;> rfl
    · by_cases h2 : a = "hand"
      · subst h2
        rw [deedOf_hand, if_pos (.inl (show ¬ (3 = 4) by decide))]
        cases wholeB x 0 11 with
        | none => rfl
        | some c => (rw [Option.bind_some, if_neg hd]) <;> rfl
      · rw [deedOf_oth _ h1 h2, whole_num, whole_num, List.mapM_cons, List.mapM_cons, List.mapM_nil]
        cases numB x with
        | none => rfl
        | some c =>
          cases numB y with
          | none =>
            show ((if 0 ≤ c ∧ c ≤ 11 then some c else none).bind fun c => if a = "do" then Option.map (fun p => Deed.oth (some a) [c, p]) (none : Option Int) else none) = none
            by_cases h3 : 0 ≤ c ∧ c ≤ 11
            · rw [if_pos h3]
              show (if a = "do" then none else none) = none
              split <;> rfl
            · rw [if_neg h3]
              rfl
          | some p =>
            show ((if 0 ≤ c ∧ c ≤ 11 then some c else none).bind fun c => if a = "do" then Option.map (fun p => Deed.oth (some a) [c, p]) (if 0 ≤ p ∧ p ≤ 8 then some p else none) else none) = if deedB (.oth (some a) [c, p]) = true then some (Deed.oth (some a) [c, p]) else none
            have e : deedB (.oth (some a) [c, p]) = (clauseB c && (decide (a = "do") && (decide (0 ≤ p) && decide (p ≤ 8)))) := rfl
            rw [e, clause_if]
            by_cases h3 : 0 ≤ c ∧ c ≤ 11
            · rw [if_pos h3, decide_eq_true h3]
              show (if a = "do" then Option.map (fun p => Deed.oth (some a) [c, p]) (if 0 ≤ p ∧ p ≤ 8 then some p else none) else none) = _
              by_cases h4 : a = "do"
              · rw [if_pos h4, decide_eq_true h4]
                by_cases h5 : 0 ≤ p ∧ p ≤ 8
                · rw [if_pos h5, decide_eq_true h5.1, decide_eq_true h5.2]
                  rfl
                · rw [if_neg h5, if_neg fun q => h5 (by simpa using q)]
                  rfl
              · rw [if_neg h4, decide_eq_false h4]
                rfl
            · rw [if_neg h3, decide_eq_false h3]
              rfl
  | [a, x, y, z] =>
    have e1 : doneM [a, x, y, z] = (wholeB x 0 11).bind fun c => if (a = "hand" ∧ y = "to") ∧ (wordB z = true ∧ z ≠ "bell") then some (.hand c z) else none := rfl
    rw [e1]
    by_cases h1 : a = "say"
    · subst h1
      rw [deedOf_say]
      cases wholeB x 0 11 with
      | none => rfl
      | some c =>
        have nn : ¬ ((("say" : Str) = "hand" ∧ y = "to") ∧ (wordB z = true ∧ z ≠ "bell")) := fun q => sh q.1.1
        (rw [Option.bind_some, if_neg nn]) <;> rfl
    · by_cases h2 : a = "hand"
      · subst h2
        rw [deedOf_hand, whole_num]
        have hc : (("hand" :: [x, y, z] : List Str).length ≠ 4 ∨ ("hand" :: [x, y, z] : List Str).getD 2 "" ≠ "to") ↔ y ≠ "to" := ⟨fun q => q.elim (fun q => absurd rfl q) id, .inr⟩
        by_cases h3 : y = "to"
        · rw [if_neg (fun q => hc.mp q h3)]
          show _ = Option.bind ((numB x).map fun c => Deed.hand c z) ifD
          cases numB x with
          | none => rfl
          | some c =>
            show ((if 0 ≤ c ∧ c ≤ 11 then some c else none).bind fun c => if (("hand" : Str) = "hand" ∧ y = "to") ∧ (wordB z = true ∧ z ≠ "bell") then some (Deed.hand c z) else none) = if deedB (.hand c z) = true then some (Deed.hand c z) else none
            have e : deedB (.hand c z) = (clauseB c && (wordB z && !decide (z = "bell"))) := rfl
            rw [e, clause_if]
            by_cases h4 : 0 ≤ c ∧ c ≤ 11
            · rw [if_pos h4, decide_eq_true h4]
              show (if (("hand" : Str) = "hand" ∧ y = "to") ∧ (wordB z = true ∧ z ≠ "bell") then some (Deed.hand c z) else none) = _
              by_cases h5 : wordB z = true ∧ z ≠ "bell"
              · rw [if_pos ⟨⟨rfl, h3⟩, h5⟩, h5.1, decide_eq_false h5.2]
                rfl
              · rw [if_neg fun q => h5 q.2, if_neg fun q => h5 (by simpa using q)]
            · rw [if_neg h4, decide_eq_false h4]
              rfl
        · rw [if_pos (hc.mpr h3)]
          have nn : ¬ ((("hand" : Str) = "hand" ∧ y = "to") ∧ (wordB z = true ∧ z ≠ "bell")) := fun q => h3 q.1.2
          cases numB x with
          | none => rfl
          | some c =>
            show ((if 0 ≤ c ∧ c ≤ 11 then some c else none).bind fun c => if (("hand" : Str) = "hand" ∧ y = "to") ∧ (wordB z = true ∧ z ≠ "bell") then some (Deed.hand c z) else none) = none
            by_cases h4 : 0 ≤ c ∧ c ≤ 11
            · (rw [if_pos h4, Option.bind_some, if_neg nn]) <;> rfl
            · rw [if_neg h4]
              rfl
      · have nn : ¬ ((a = "hand" ∧ y = "to") ∧ (wordB z = true ∧ z ≠ "bell")) := fun q => h2 q.1.1
        rw [deedOf_oth _ h1 h2, List.mapM_cons, List.mapM_cons, List.mapM_cons, List.mapM_nil]
        have e0 : ((wholeB x 0 11).bind fun c => if (a = "hand" ∧ y = "to") ∧ (wordB z = true ∧ z ≠ "bell") then some (Deed.hand c z) else none) = none := by
          cases wholeB x 0 11 with
          | none => rfl
          | some c => exact if_neg nn
        rw [e0]
        cases numB x <;> cases numB y <;> cases numB z <;> rfl
  | a :: x :: y :: z :: u :: r =>
    have e1 : doneM (a :: x :: y :: z :: u :: r) = none := rfl
    rw [e1]
    by_cases h1 : a = "say"
    · subst h1
      rw [deedOf_say]
      rfl
    · by_cases h2 : a = "hand"
      · subst h2
        rw [deedOf_hand, if_pos (.inl (by simp))]
        rfl
      · rw [deedOf_oth _ h1 h2]
        cases h : List.mapM numB (x :: y :: z :: u :: r) with
        | none => rfl
        | some ns =>
          have hl := paired_len h
          match ns, hl with
          | c1 :: c2 :: c3 :: c4 :: ns', _ => rfl
          | [], hl => exact absurd hl (by simp)
          | [_], hl => exact absurd hl (by simp)
          | [_, _], hl => exact absurd hl (by simp)
          | [_, _, _], hl => exact absurd hl (by simp)
end K84

/-! part K84PC -/
set_option maxHeartbeats 1000000
/-! K84PC: plain: letters. -/
namespace K84
open PySem TL L2
def Aft (af : List Str) (pv : Int) : Prop := (af = [] ∧ pv = 0) ∨ ∃ n2, af = (["after", n2] : List Str) ∧ numOk n2 = true ∧ pv = numVal n2 ∧ pv ≠ 0
def Gts (gt : List Str) (gs : List Nm) : Prop := (gt = [] ∧ gs = []) ∨ ∃ z zs, gt = ("got" : Str) :: z :: zs ∧ (z :: zs).mapM nameOf = some gs
abbrev cutC (z : Str) : Str := cutS z none (some (-1))
/-- words that write a letter -/
structure ShpP (ws : List Str) (l : Letter) (n : Str) (af gt : List Str) (tz : Str) (rest : List Str) : Prop where
  eq : ws = l.name.1 :: l.name.2.1 :: n :: (af ++ (gt ++ (("at" : Str) :: tz :: rest)))
  n1 : numOk n = true
  n2 : l.name.2.2 = numVal n
  af : Aft af l.prev
  gt : Gts gt l.gots
  col : colonB tz = true
  t1 : numOk (cutC tz) = true
  t2 : l.time = numVal (cutC tz)
  deed : deedOf rest = some l.deed
  ok : letterB l = true
def Shp (ws : List Str) (l : Letter) : Prop := ∃ n af gt tz rest, ShpP ws l n af gt tz rest
theorem nameOf_at : nameOf "at" = none := by
  have e : Txt.split "at" "." = (["at"] : List Str) := by decide +kernel
  unfold nameOf
  rw [e]
theorem mapM_cons_some {α β : Type} {f : α → Option β} {a : α} {l : List α} {ys : List β} (h : (a :: l).mapM f = some ys) : ∃ b bs, f a = some b ∧ l.mapM f = some bs ∧ ys = b :: bs := by
  rw [List.mapM_cons] at h
  cases e : f a with
  | none =>
    rw [e] at h
    cases h
  | some b =>
    rw [e] at h
    cases e2 : l.mapM f with
    | none =>
      rw [e2] at h
      cases h
    | some bs =>
      rw [e2] at h
      cases h
      exact ⟨b, bs, rfl, rfl, rfl⟩
theorem mapM_some_cons {α β : Type} {f : α → Option β} {a : α} {l : List α} {b : β} {bs : List β} (h1 : f a = some b) (h2 : l.mapM f = some bs) : (a :: l).mapM f = some (b :: bs) := by
  rw [List.mapM_cons, h1, h2]
  rfl
/-! ### the reader's steps -/
theorem prev_split {r : List Str} {p : Int × List Str} (h : takePrev r = some p) : ∃ af, r = af ++ p.2 ∧ Aft af p.1 := by
  unfold takePrev at h
  split at h
  · rename_i q
    match r, q, h with
    | [], q, h => cases h
    | [_], q, h => cases h
    | a :: n :: r, q, h =>
      have ha : a = "after" := q
      subst ha
      have h : ((numB n).bind fun v => if v = 0 then none else some (v, r)) = some p := h
      cases e : numB n with
      | none =>
        rw [e] at h
        cases h
      | some v =>
        rw [e] at h
        have h' : (if v = 0 then none else some (v, r)) = some p := h
        split at h'
        · cases h'
        · rename_i hv
          cases h'
          obtain ⟨e1, e2⟩ := numB_some e
          exact ⟨(["after", n] : List Str), rfl, .inr ⟨n, rfl, e1, e2, hv⟩⟩
  · cases h
    exact ⟨[], rfl, .inl ⟨rfl, rfl⟩⟩
theorem gotsR_split : ∀ {l : List Str} {q : List Nm × List Str}, gotsR l = some q → ∃ zs, l = zs ++ q.2 ∧ zs.mapM nameOf = some q.1
  | [], q, h => by cases h
  | z :: r, q, h => by
    have h' : (if z = "at" then some ([], z :: r) else (nameOf z).bind fun g => (gotsR r).map fun q => (g :: q.1, q.2)) = some q := h
    split at h'
    · cases h'
      exact ⟨[], rfl, rfl⟩
    · cases e : nameOf z with
      | none =>
        rw [e] at h'
        cases h'
      | some g =>
        rw [e] at h'
        cases e2 : gotsR r with
        | none =>
          rw [e2] at h'
          cases h'
        | some q2 =>
          rw [e2] at h'
          cases h'
          obtain ⟨zs, h1, h2⟩ := gotsR_split e2
          exact ⟨z :: zs, by rw [h1]; rfl, mapM_some_cons e h2⟩
theorem gotsR_of {r : List Str} : ∀ {zs : List Str} {gs : List Nm}, zs.mapM nameOf = some gs → gotsR (zs ++ ("at" : Str) :: r) = some (gs, ("at" : Str) :: r)
  | [], gs, h => by
    rw [List.mapM_nil] at h
    have h' : gs = [] := (Option.some.inj h).symm
    subst h'
    show (if ("at" : Str) = "at" then some ([], ("at" : Str) :: r) else _) = _
    rw [if_pos rfl]
  | z :: zs, gs, h => by
    obtain ⟨b, bs, h1, h2, rfl⟩ := mapM_cons_some h
    have hz : z ≠ "at" := fun e => by
      rw [e, nameOf_at] at h1
      cases h1
    show (if z = "at" then some ([], z :: (zs ++ ("at" : Str) :: r)) else (nameOf z).bind fun g => (gotsR (zs ++ ("at" : Str) :: r)).map fun q => (g :: q.1, q.2)) = _
    rw [if_neg hz, h1, gotsR_of h2]
    rfl
theorem gots_split {l : List Str} {q : List Nm × List Str} (h : takeGots l = some q) : ∃ gt, l = gt ++ q.2 ∧ Gts gt q.1 := by
  unfold takeGots at h
  split at h
  · rename_i e0
    match l, e0, h with
    | [], e0, h => cases h
    | [_], e0, h => cases h
    | a :: z :: r, e0, h =>
      have ha : a = "got" := e0
      subst ha
      have h : ((nameOf z).bind fun g => (gotsR r).map fun q => (g :: q.1, q.2)) = some q := h
      cases e : nameOf z with
      | none =>
        rw [e] at h
        cases h
      | some g =>
        rw [e] at h
        cases e2 : gotsR r with
        | none =>
          rw [e2] at h
          cases h
        | some q2 =>
          rw [e2] at h
          cases h
          obtain ⟨zs, h1, h2⟩ := gotsR_split e2
          exact ⟨("got" : Str) :: z :: zs, by rw [h1]; rfl, .inr ⟨z, zs, rfl, mapM_some_cons e h2⟩⟩
  · cases h
    exact ⟨[], rfl, .inl ⟨rfl, rfl⟩⟩
theorem time_split {l : List Str} {q : Int × List Str} (h : takeTime l = some q) : ∃ tz, l = ("at" : Str) :: tz :: q.2 ∧ colonB tz = true ∧ numOk (cutC tz) = true ∧ q.1 = numVal (cutC tz) := by
  match l, h with
  | [], h => cases h
  | [_], h => cases h
  | a :: z :: r, h =>
    have h' : (if a = "at" ∧ Txt.endswith z ":" = true then (numB (cutC z)).map fun n => (n, r) else none) = some q := h
    split at h'
    · rename_i e0
      cases e : numB (cutC z) with
      | none =>
        rw [e] at h'
        cases h'
      | some n =>
        rw [e] at h'
        cases h'
        obtain ⟨e1, e2⟩ := numB_some e
        exact ⟨z, by rw [e0.1], by rw [← colon_ends]; exact e0.2, e1, e2⟩
    · cases h'
theorem read_shp {ws : List Str} {l : Letter} (h : readL ws = some l) : Shp ws l := by
  match ws, h with
  | [], h => cases h
  | [_], h => cases h
  | [_, _], h => cases h
  | a :: d :: n :: r, h =>
    have h' : ((numB n).bind fun v => (takePrev r).bind fun p => (takeGots p.2).bind fun g => (takeTime g.2).bind fun t => (deedOf t.2).bind fun e => if letterB ⟨(a, d, v), p.1, g.1, t.1, e⟩ = true then some (⟨(a, d, v), p.1, g.1, t.1, e⟩ : Letter) else none) = some l := h
    obtain ⟨v, e1, h'⟩ := Option.bind_eq_some_iff.mp h'
    obtain ⟨p, e2, h'⟩ := Option.bind_eq_some_iff.mp h'
    obtain ⟨g, e3, h'⟩ := Option.bind_eq_some_iff.mp h'
    obtain ⟨t, e4, h'⟩ := Option.bind_eq_some_iff.mp h'
    obtain ⟨e, e5, h'⟩ := Option.bind_eq_some_iff.mp h'
    split at h'
    · rename_i hb
      cases h'
      obtain ⟨n1, n2⟩ := numB_some e1
      obtain ⟨af, a1, a2⟩ := prev_split e2
      obtain ⟨gt, g1, g2⟩ := gots_split e3
      obtain ⟨tz, t1, t2, t3, t4⟩ := time_split e4
      exact ⟨n, af, gt, tz, t.2, by rw [a1, g1, t1], n1, n2, a2, g2, t2, t3, t4, e5, hb⟩
    · cases h'
theorem head_gt {gt : List Str} {gs : List Nm} (h : Gts gt gs) (r : List Str) : (gt ++ (("at" : Str) :: r)).headD "" = "got" ∨ (gt ++ (("at" : Str) :: r)).headD "" = "at" := by
  rcases h with ⟨rfl, _⟩ | ⟨z, zs, rfl, _⟩
  · exact .inr rfl
  · exact .inl rfl
theorem shp_read {ws : List Str} {l : Letter} (h : Shp ws l) : readL ws = some l := by
  obtain ⟨n, af, gt, tz, rest, h⟩ := h
  obtain ⟨⟨a, d, v⟩, pv, gs, tm, de⟩ := l
  have eq : ws = a :: d :: n :: (af ++ (gt ++ (("at" : Str) :: tz :: rest))) := h.eq
  rw [eq]
  show ((numB n).bind fun v => (takePrev (af ++ (gt ++ (("at" : Str) :: tz :: rest)))).bind fun p => (takeGots p.2).bind fun g => (takeTime g.2).bind fun t => (deedOf t.2).bind fun e => if letterB ⟨(a, d, v), p.1, g.1, t.1, e⟩ = true then some (⟨(a, d, v), p.1, g.1, t.1, e⟩ : Letter) else none) = _
  have hv : v = numVal n := h.n2
  rw [numB_of h.n1, ← hv, Option.bind_some]
  have hp : takePrev (af ++ (gt ++ (("at" : Str) :: tz :: rest))) = some (pv, gt ++ (("at" : Str) :: tz :: rest)) := by
    have ha : Aft af pv := h.af
    rcases ha with ⟨rfl, rfl⟩ | ⟨n2, rfl, q1, q2, q3⟩
    · have q : ¬ (gt ++ (("at" : Str) :: tz :: rest)).headD "" = "after" := by
        rcases head_gt h.gt (tz :: rest) with e | e
        · rw [e]
          decide +kernel
        · rw [e]
          decide +kernel
      show (if (gt ++ (("at" : Str) :: tz :: rest)).headD "" = "after" then _ else some ((0 : Int), gt ++ (("at" : Str) :: tz :: rest))) = _
      rw [if_neg q]
    · show (if ("after" : Str) = "after" then (numB n2).bind fun v => if v = 0 then none else some (v, gt ++ (("at" : Str) :: tz :: rest)) else _) = _
      rw [if_pos rfl, numB_of q1, ← q2, Option.bind_some, if_neg q3]
  rw [hp, Option.bind_some]
  have hg : takeGots (gt ++ (("at" : Str) :: tz :: rest)) = some (gs, ("at" : Str) :: tz :: rest) := by
    have hg : Gts gt gs := h.gt
    rcases hg with ⟨rfl, rfl⟩ | ⟨z, zs, rfl, q⟩
    · show (if ("at" : Str) = "got" then _ else some (([] : List Nm), ("at" : Str) :: tz :: rest)) = _
      rw [if_neg (by decide +kernel)]
    · obtain ⟨b, bs, q1, q2, rfl⟩ := mapM_cons_some q
      show (if ("got" : Str) = "got" then (nameOf z).bind fun g => (gotsR (zs ++ (("at" : Str) :: tz :: rest))).map fun q => (g :: q.1, q.2) else _) = _
      rw [if_pos rfl, q1, Option.bind_some, gotsR_of q2]
      rfl
  show ((takeGots (gt ++ (("at" : Str) :: tz :: rest))).bind _) = _
  rw [hg, Option.bind_some]
  have ht : takeTime (("at" : Str) :: tz :: rest) = some (tm, rest) := by
    show (if ("at" : Str) = "at" ∧ Txt.endswith tz ":" = true then (numB (cutC tz)).map fun n => (n, rest) else none) = _
    have e : tm = numVal (cutC tz) := h.t2
    rw [colon_ends, if_pos ⟨rfl, h.col⟩, numB_of h.t1, ← e]
    rfl
  show ((takeTime (("at" : Str) :: tz :: rest)).bind _) = _
  rw [ht, Option.bind_some]
  show ((deedOf rest).bind _) = _
  have hd : deedOf rest = some de := h.deed
  rw [hd, Option.bind_some]
  exact if_pos h.ok
end K84

/-! part K84PD -/
set_option maxHeartbeats 1000000
/-! K84PD: plain: the law's own look at letters; what is shown. -/
namespace K84
open PySem TL L2
theorem filter_first {p : Nat → Bool} : ∀ {n i : Nat}, i < n → p i = true → (∀ j, j < i → p j = false) → ∃ es, (List.range n).filter p = i :: es := by
  intro n i hi hp hj
  have e : List.range n = List.range i ++ (i :: (List.range (n - i - 1)).map fun k => i + (k + 1)) := by
    have e1 : n = i + ((n - i - 1) + 1) := by omega
    have e2 : List.range (i + ((n - i - 1) + 1)) = List.range i ++ (i :: (List.range (n - i - 1)).map fun k => i + (k + 1)) := by
      rw [List.range_add, List.range_succ_eq_map, List.map_cons, List.map_map]
      rfl
    rw [← e2, ← e1]
  rw [e, List.filter_append]
  have e1 : (List.range i).filter p = [] := by
    rw [List.filter_eq_nil_iff]
    intro j hm
    rw [hj j (List.mem_range.mp hm)]
    decide
  rw [e1, List.nil_append, List.filter_cons, if_pos hp]
  exact ⟨_, rfl⟩
theorem letterB_parts {l : Letter} (h : letterB l = true) : nameB l.name = true ∧ 0 ≤ l.prev ∧ 0 ≤ l.time ∧ (l.gots.length ≤ 30 ∧ (∀ g ∈ l.gots, nameB g = true) ∧ (l.gots.all fun g => !decide ([g.1, g.2.1] = [l.name.1, l.name.2.1])) = true ∧ adjB l.gots = true) ∧ deedB l.deed = true := by
  unfold letterB gotsB at h
  simp only [Bool.and_eq_true, decide_eq_true_eq] at h
  obtain ⟨h1, h2, h3, ⟨h4, h5, h6, h7⟩, h8⟩ := h
  exact ⟨h1, h2, h3, ⟨h4, List.all_eq_true.mp h5, h6, h7⟩, h8⟩
theorem letterB_of {l : Letter} (h1 : nameB l.name = true) (h2 : 0 ≤ l.prev) (h3 : 0 ≤ l.time) (h4 : l.gots.length ≤ 30) (h5 : ∀ g ∈ l.gots, nameB g = true) (h6 : (l.gots.all fun g => !decide ([g.1, g.2.1] = [l.name.1, l.name.2.1])) = true) (h7 : adjB l.gots = true) (h8 : deedB l.deed = true) : letterB l = true := by
  unfold letterB gotsB
  rw [h1, decide_eq_true h2, decide_eq_true h3, decide_eq_true h4, List.all_eq_true.mpr h5, h6, h7, h8]
  rfl
theorem nameB_parts {p : Nm} (h : nameB p = true) : wordB p.1 = true ∧ wordB p.2.1 = true ∧ 1 ≤ p.2.2 := by
  unfold nameB at h
  simp only [Bool.and_eq_true, decide_eq_true_eq] at h
  exact ⟨h.1.1, h.1.2, h.2⟩
theorem mapM_named {zs : List Str} (hl : ∀ z ∈ zs, z.length ≤ 60) {gs : List Nm} : zs.mapM (fun z => namedB (Txt.split z ".")) = some gs ↔ zs.mapM nameOf = some gs ∧ ∀ g ∈ gs, nameB g = true := by
  induction zs generalizing gs with
  | nil =>
    rw [List.mapM_nil, List.mapM_nil]
    constructor
    · intro h
      have h' : gs = [] := (Option.some.inj h).symm
      subst h'
      exact ⟨rfl, fun g hg => (nomatch hg)⟩
    · exact fun h => h.1
  | cons z zs ih =>
    have ih := fun gs => @ih (fun y hy => hl y (List.mem_cons_of_mem _ hy)) gs
    have hz := hl z List.mem_cons_self
    constructor
    · intro h
      obtain ⟨b, bs, h1, h2, rfl⟩ := mapM_cons_some h
      obtain ⟨q1, q2⟩ := (named_iff hz b).mp h1
      obtain ⟨q3, q4⟩ := (ih bs).mp h2
      refine ⟨mapM_some_cons q1 q3, fun g hg => ?_⟩
      rcases List.mem_cons.mp hg with rfl | hg
      · exact q2
      · exact q4 g hg
    · rintro ⟨h1, h2⟩
      obtain ⟨b, bs, q1, q2, rfl⟩ := mapM_cons_some h1
      exact mapM_some_cons ((named_iff hz b).mpr ⟨q1, h2 b List.mem_cons_self⟩) ((ih bs).mpr ⟨q2, fun g hg => h2 g (List.mem_cons_of_mem _ hg)⟩)
theorem gts_got {gt : List Str} (hl : ∀ z ∈ gt, z.length ≤ 60) {gs : List Nm} (h : Gts gt gs) (h1 : gs.length ≤ 30) (h2 : ∀ g ∈ gs, nameB g = true) : gotsM gt = some gs := by
  rcases h with ⟨rfl, rfl⟩ | ⟨z, zs, rfl, q⟩
  · rfl
  · have e : gotsM (("got" : Str) :: z :: zs) = if ("got" : Str) = "got" ∧ ((z :: zs).length ≠ 0 ∧ (z :: zs).length ≤ 30) then (z :: zs).mapM (fun z => namedB (Txt.split z ".")) else none := rfl
    have hlen := paired_len q
    rw [e, if_pos ⟨rfl, by simp, by omega⟩]
    exact (mapM_named fun y hy => hl y (List.mem_cons_of_mem _ hy)).mpr ⟨q, h2⟩
theorem got_gts {gt : List Str} (hl : ∀ z ∈ gt, z.length ≤ 60) {gs : List Nm} (h : gotsM gt = some gs) : Gts gt gs ∧ gs.length ≤ 30 ∧ ∀ g ∈ gs, nameB g = true := by
  match gt, hl, h with
  | [], _, h =>
    have h' : gs = [] := (Option.some.inj h).symm
    subst h'
    exact ⟨.inl ⟨rfl, rfl⟩, by decide, fun g hg => (nomatch hg)⟩
  | [a], _, h =>
    have h' : (if a = "got" ∧ ((0 : Nat) ≠ 0 ∧ 0 ≤ 30) then ([] : List Str).mapM (fun z => namedB (Txt.split z ".")) else none) = some gs := h
    rw [if_neg (fun q => q.2.1 rfl)] at h'
    cases h'
  | a :: z :: zs, hl, h =>
    have h' : (if a = "got" ∧ ((z :: zs).length ≠ 0 ∧ (z :: zs).length ≤ 30) then (z :: zs).mapM (fun z => namedB (Txt.split z ".")) else none) = some gs := h
    split at h'
    · rename_i q
      obtain ⟨q1, q2⟩ := (mapM_named fun y hy => hl y (List.mem_cons_of_mem _ hy)).mp h'
      refine ⟨.inr ⟨z, zs, by rw [q.1], q1⟩, ?_, q2⟩
      rw [paired_len h']
      exact q.2.2
    · cases h'
theorem shp_due {ws : List Str} (hw : ∀ z ∈ ws, GW z) {l : Letter} (h : Shp ws l) : dueM ws = some l := by
  obtain ⟨n, af, gt, tz, rest, h⟩ := h
  obtain ⟨⟨a, d, v⟩, pv, gs, tm, de⟩ := l
  obtain ⟨b1, b2, b3, ⟨b4, b5, b6, b7⟩, b8⟩ := letterB_parts h.ok
  have eq : ws = a :: d :: n :: (af ++ (gt ++ (("at" : Str) :: tz :: rest))) := h.eq
  have hlen : ∀ z ∈ ws, z.length ≤ 60 := fun z hz => (hw z hz).len
  have hv : v = numVal n := h.n2
  obtain ⟨w1, w2, w3⟩ := nameB_parts b1
  have w1 : wordB a = true := w1
  have w2 : wordB d = true := w2
  have w3 : 1 ≤ v := w3
  -- what stands where
  have eq2 : ws = a :: d :: n :: ((af ++ gt) ++ (("at" : Str) :: tz :: rest)) := by rw [eq, List.append_assoc]
  have haf : ∀ z ∈ af, z ≠ "at" := fun z hz => by
    have ha : Aft af pv := h.af
    rcases ha with ⟨rfl, _⟩ | ⟨n2, rfl, q1, _, _⟩
    · cases hz
    · simp at hz
      rcases hz with rfl | rfl
      · decide +kernel
      · intro e
        rw [e] at q1
        exact absurd q1 (by decide +kernel)
  have hgt : ∀ z ∈ gt, z ≠ "at" := fun z hz => by
    have hg : Gts gt gs := h.gt
    rcases hg with ⟨rfl, _⟩ | ⟨z0, zs, rfl, q⟩
    · cases hz
    · rcases List.mem_cons.mp hz with rfl | hz
      · decide +kernel
      · intro e
        rw [e] at hz
        have : (z0 :: zs).mapM nameOf = none := mapM_none hz nameOf_at
        rw [this] at q
        cases q
  have hno : ∀ z ∈ af ++ gt, z ≠ "at" := fun z hz => (List.mem_append.mp hz).elim (haf z) (hgt z)
  have hwl : ws.length = 5 + (af ++ gt).length + rest.length := by
    rw [eq2]
    simp only [List.length_cons, List.length_append]
    omega
  have g3 : ∀ j, ws.getD (3 + j) "" = ((af ++ gt) ++ (("at" : Str) :: tz :: rest)).getD j "" := fun j => by
    rw [eq2, Nat.add_comm]
    rfl
  have g4 : ∀ j, ws.getD (4 + j) "" = ((af ++ gt) ++ (("at" : Str) :: tz :: rest)).getD (j + 1) "" := fun j => by
    rw [show 4 + j = 3 + (j + 1) by omega]
    exact g3 (j + 1)
  have hat : ws.getD (3 + (af ++ gt).length) "" = "at" := by
    rw [g3, List.getD_eq_getElem?_getD, List.getElem?_append_right (Nat.le_refl _), Nat.sub_self]
    rfl
  have htz : ws.getD (4 + (af ++ gt).length) "" = tz := by
    rw [g4, List.getD_eq_getElem?_getD, List.getElem?_append_right (by omega), Nat.add_sub_cancel_left]
    rfl
  have hpi : pE ws (af ++ gt).length = true := by
    unfold pE
    rw [hat, htz, h.col, decide_eq_true rfl]
    rfl
  have hpj : ∀ j, j < (af ++ gt).length → pE ws j = false := fun j hj => by
    unfold pE
    have e : ws.getD (3 + j) "" ≠ "at" := by
      rw [g3, List.getD_eq_getElem?_getD, List.getElem?_append_left hj]
      rw [List.getElem?_eq_getElem hj]
      exact hno _ (List.getElem_mem hj)
    rw [decide_eq_false e, Bool.and_false]
  obtain ⟨es, he⟩ := filter_first (p := pE ws) (n := ws.length - 4) (i := (af ++ gt).length) (by omega) hpi hpj
  have he' : endsM ws = (af ++ gt).length :: es := he
  have hnl : n.length ≤ 60 := hlen n (by rw [eq]; simp)
  have hnm : namedB (ws.take 3) = some (a, d, v) := by
    have e : ws.take 3 = [a, d, n] := by rw [eq]; rfl
    rw [e]
    show (if wordB a = true ∧ wordB d = true then (wholeB n 1 (10 ^ 60)).map fun n => (a, d, n) else none) = _
    rw [if_pos ⟨w1, w2⟩, whole60 hnl, if_pos ⟨h.n1, by rw [← hv]; exact w3⟩, ← hv]
    rfl
  have hmid : (ws.drop 3).take (af ++ gt).length = af ++ gt := by
    rw [eq2]
    show ((af ++ gt) ++ (("at" : Str) :: tz :: rest)).take _ = _
    exact List.take_left' rfl
  have hrest : ws.drop (5 + (af ++ gt).length) = rest := by
    rw [eq2, Nat.add_comm]
    show (((af ++ gt) ++ (("at" : Str) :: tz :: rest))).drop ((af ++ gt).length + 2) = rest
    rw [← List.drop_drop, List.drop_left' rfl]
    rfl
  have hgl : ∀ z ∈ gt, z.length ≤ 60 := fun z hz => hlen z (by rw [eq]; simp [hz])
  have hgm : gotsM gt = some gs := gts_got hgl h.gt b4 b5
  have hpm : midM ws (af ++ gt).length = gt ∧ prevM ws (af ++ gt).length = some pv := by
    have ha : Aft af pv := h.af
    unfold midM prevM isAft
    rw [hmid]
    rcases ha with ⟨rfl, rfl⟩ | ⟨n2, rfl, q1, q2, q3⟩
    · have e : decide ((([] : List Str) ++ gt).take 1 = (["after"] : List Str)) = false := by
        refine decide_eq_false ?_
        have hg : Gts gt gs := h.gt
        rcases hg with ⟨rfl, _⟩ | ⟨z0, zs, rfl, _⟩
        · exact fun z => (nomatch z)
        · intro z
          have z' : ("got" : Str) = "after" := by simpa using z
          exact absurd z' (by decide +kernel)
      rw [e]
      exact ⟨rfl, rfl⟩
    · have e : decide (((["after", n2] : List Str) ++ gt).take 1 = (["after"] : List Str)) = true := decide_eq_true rfl
      rw [e, if_pos rfl, if_pos rfl]
      refine ⟨rfl, ?_⟩
      show wholeB n2 1 (10 ^ 60) = some pv
      have hn2 : n2.length ≤ 60 := hlen n2 (by rw [eq]; simp)
      have h0 : 0 ≤ pv := b2
      rw [whole60 hn2, if_pos ⟨q1, by rw [← q2]; omega⟩, q2]
  have hcl : (cutC tz).length ≤ 60 := Nat.le_trans (cutS_length tz _ _) (hlen tz (by rw [eq]; simp))
  have htm : tm = numVal (cutC tz) := h.t2
  unfold dueM
  rw [he', hnm]
  show (gotsM (midM ws (af ++ gt).length)).bind _ = _
  rw [hpm.1, hpm.2, hgm, Option.bind_some, Option.bind_some, htz, whole60 hcl, if_pos ⟨h.t1, by rw [← htm]; exact b3⟩, Option.bind_some, hrest, done_iff]
  have hd : deedOf rest = some de := h.deed
  rw [hd, Option.bind_some]
  have b8' : deedB de = true := b8
  show (if deedB de = true then some de else none).bind _ = _
  rw [if_pos b8', Option.bind_some, if_pos ⟨b6, b7⟩, ← htm]
theorem due_shp {ws : List Str} (hw : ∀ z ∈ ws, GW z) {l : Letter} (h : dueM ws = some l) : Shp ws l := by
  have hlen : ∀ z ∈ ws, z.length ≤ 60 := fun z hz => (hw z hz).len
  unfold dueM at h
  split at h
  · rename_i i es g he hg
    have hie : i ∈ endsM ws := by rw [he]; exact List.mem_cons_self
    obtain ⟨hr, hp⟩ := List.mem_filter.mp hie
    have hil : 4 + i < ws.length := by
      have := List.mem_range.mp hr
      omega
    unfold pE at hp
    rw [Bool.and_eq_true, decide_eq_true_eq] at hp
    obtain ⟨hcol, hat⟩ := hp
    -- the first three
    obtain ⟨a, d, n, r, rfl⟩ : ∃ a d n r, ws = a :: d :: n :: r := by
      match ws, hil with
      | a :: d :: n :: r, _ => exact ⟨a, d, n, r, rfl⟩
      | [], q => exact absurd q (by simp only [List.length_nil]; omega)
      | [_], q => exact absurd q (by simp only [List.length_cons, List.length_nil]; omega)
      | [_, _], q => exact absurd q (by simp only [List.length_cons, List.length_nil]; omega)
    have hnl : n.length ≤ 60 := hlen n (by simp)
    have hg' : (if wordB a = true ∧ wordB d = true then (wholeB n 1 (10 ^ 60)).map fun n => (a, d, n) else none) = some g := hg
    split at hg'
    · rename_i hwd
      cases hn : wholeB n 1 (10 ^ 60) with
      | none =>
        rw [hn] at hg'
        cases hg'
      | some v =>
        rw [hn] at hg'
        cases hg'
        obtain ⟨n1, n2, n3, _⟩ := whole_some hn
        have hil' : 1 + i < r.length := by simp at hil; omega
        have g3 : r.getD i "" = "at" := by
          have e : (a :: d :: n :: r).getD (3 + i) "" = r.getD i "" := by rw [Nat.add_comm]; rfl
          rw [← e]
          exact hat
        have e4 : (a :: d :: n :: r).getD (4 + i) "" = r.getD (i + 1) "" := by rw [show 4 + i = (i + 1) + 3 by omega]; rfl
        rw [e4] at h hcol
        have e5 : (a :: d :: n :: r).drop (5 + i) = r.drop (i + 2) := by rw [show 5 + i = (i + 2) + 3 by omega]; rfl
        rw [e5] at h
        have er : r = r.take i ++ (("at" : Str) :: r.getD (i + 1) "" :: r.drop (i + 2)) := by
          have q1 : r[i]? = some ("at" : Str) := by rw [getD_at (by omega), g3]
          have q2 : r[i + 1]? = some (r.getD (i + 1) "") := getD_at (by omega)
          have q3 : r.drop i = ("at" : Str) :: r.drop (i + 1) := by
            rw [List.drop_eq_getElem_cons (by omega)]
            congr 1
            exact Option.some.inj (by rw [← List.getElem?_eq_getElem (by omega), q1])
          have q4 : r.drop (i + 1) = r.getD (i + 1) "" :: r.drop (i + 2) := by
            rw [List.drop_eq_getElem_cons (by omega)]
            congr 1
            exact Option.some.inj (by rw [← List.getElem?_eq_getElem (by omega), q2])
          rw [← q4, ← q3, List.take_append_drop]
        have hmid : ((a :: d :: n :: r).drop 3).take i = r.take i := rfl
        have hml : ∀ z ∈ r.take i, z.length ≤ 60 := fun z hz => hlen z (by simp [List.mem_of_mem_take hz])
        generalize r.getD (i + 1) "" = tz at *
        generalize r.drop (i + 2) = rest at *
        generalize hmd : r.take i = mid at *
        obtain ⟨gs, k1, h⟩ := Option.bind_eq_some_iff.mp h
        obtain ⟨pv, k2, h⟩ := Option.bind_eq_some_iff.mp h
        obtain ⟨tm, k3, h⟩ := Option.bind_eq_some_iff.mp h
        obtain ⟨de, k4, h⟩ := Option.bind_eq_some_iff.mp h
        split at h
        · rename_i k5
          cases h
          obtain ⟨t1, t2, t3, _⟩ := whole_some k3
          rw [done_iff] at k4
          obtain ⟨de', k6, k7⟩ := Option.bind_eq_some_iff.mp k4
          have k7' : (if deedB de' = true then some de' else none) = some de := k7
          split at k7'
          · rename_i k8
            cases k7'
            have key : ∃ af gt, mid = af ++ gt ∧ Aft af pv ∧ Gts gt gs ∧ 0 ≤ pv ∧ gs.length ≤ 30 ∧ ∀ g ∈ gs, nameB g = true := by
              unfold midM isAft at k1
              unfold prevM isAft at k2
              rw [hmid] at k1 k2
              by_cases hA : mid.take 1 = (["after"] : List Str)
              · rw [decide_eq_true hA, if_pos rfl] at k1 k2
                match mid, hA, k1, k2, hml with
                | [], hA, _, _, _ => cases hA
                | [z], hA, _, k2, _ =>
                  have k2' : wholeB "" 1 (10 ^ 60) = some pv := k2
                  obtain ⟨q, _⟩ := whole_some k2'
                  exact absurd q (by decide +kernel)
                | z :: n2 :: ms, hA, k1, k2, hml =>
                  have hz : z = "after" := by simpa using hA
                  have k2' : wholeB n2 1 (10 ^ 60) = some pv := k2
                  have k1' : gotsM ms = some gs := k1
                  obtain ⟨q1, q2, q3, _⟩ := whole_some k2'
                  obtain ⟨j1, j2, j3⟩ := got_gts (fun y hy => hml y (by simp [hy])) k1'
                  exact ⟨["after", n2], ms, by rw [hz]; rfl, .inr ⟨n2, rfl, q1, q2, by omega⟩, j1, by omega, j2, j3⟩
              · rw [decide_eq_false hA, if_neg (by decide)] at k1 k2
                have k2' : pv = 0 := (Option.some.inj k2).symm
                obtain ⟨j1, j2, j3⟩ := got_gts hml k1
                exact ⟨[], mid, rfl, .inl ⟨rfl, k2'⟩, j1, by omega, j2, j3⟩
            obtain ⟨af, gt, m1, m2, m3, m4, m5, m6⟩ := key
            refine ⟨n, af, gt, tz, rest, ?_, n1, n2, m2, m3, hcol, t1, t2, k6, letterB_of ?_ m4 t3 m5 m6 k5.1 k5.2 k8⟩
            · show a :: d :: n :: r = a :: d :: n :: (af ++ (gt ++ (("at" : Str) :: tz :: rest)))
              rw [er, m1, List.append_assoc]
            · unfold nameB
              show ((wordB a && wordB d) && decide (1 ≤ v)) = true
              rw [hwd.1, hwd.2, decide_eq_true n3]
              rfl
          · cases k7'
        · cases h
    · cases hg'
  · cases h
theorem due_read {ws : List Str} (hw : ∀ z ∈ ws, GW z) : dueM ws = readL ws := by
  cases h : dueM ws with
  | some l => exact (shp_read (due_shp hw h)).symm
  | none =>
    cases h2 : readL ws with
    | none => rfl
    | some l =>
      rw [shp_due hw (read_shp h2)] at h
      cases h
end K84

/-! part K84PE -/
set_option maxHeartbeats 1000000
/-! K84PE: plain: what is shown; what is drawn. -/
namespace K84
open PySem TL L2
theorem nums_back {r : List Str} {ns : List Int} (hl : ∀ z ∈ r, z.length ≤ 500) (h : r.mapM numB = some ns) : ns.map numT = r := by
  induction r generalizing ns with
  | nil =>
    rw [List.mapM_nil] at h
    have h' : ns = [] := (Option.some.inj h).symm
    subst h'
    rfl
  | cons z r ih =>
    obtain ⟨b, bs, h1, h2, rfl⟩ := mapM_cons_some h
    obtain ⟨q1, q2⟩ := numB_some h1
    rw [List.map_cons, ih (fun y hy => hl y (List.mem_cons_of_mem _ hy)) h2, q2, num_back q1 (hl z List.mem_cons_self)]
theorem names_back {r : List Str} {gs : List Nm} (hl : ∀ z ∈ r, z.length ≤ 500) (h : r.mapM nameOf = some gs) : gs.map nameT = r := by
  induction r generalizing gs with
  | nil =>
    rw [List.mapM_nil] at h
    have h' : gs = [] := (Option.some.inj h).symm
    subst h'
    rfl
  | cons z r ih =>
    obtain ⟨b, bs, h1, h2, rfl⟩ := mapM_cons_some h
    rw [List.map_cons, ih (fun y hy => hl y (List.mem_cons_of_mem _ hy)) h2, nameT_back (hl z List.mem_cons_self) h1]
theorem map_s (r : List Str) : (r.map It2.s).map It2.T = r := by
  rw [List.map_map]
  exact List.map_id r
theorem deed_back {r : List Str} {de : Deed} (hl : ∀ z ∈ r, z.length ≤ 500) (h : deedOf r = some de) (hb : deedB de = true) : deedT de = r := by
  match r, hl, h with
  | [], _, h =>
    have h' : some (Deed.oth none []) = some de := h
    cases h'
    cases hb
  | a :: r, hl, h =>
    by_cases h1 : a = "say"
    · subst h1
      rw [deedOf_say] at h
      cases h
      show ("say" : Str) :: (r.map It2.s).map It2.T = _
      rw [map_s]
    · by_cases h2 : a = "hand"
      · subst h2
        rw [deedOf_hand] at h
        split at h
        · cases h
        · rename_i q
          match r, hl, h, q with
          | [x, y, z], hl, h, q =>
            have hy : y = "to" := Classical.byContradiction fun e => q (.inr e)
            have h' : (numB x).map (fun c => Deed.hand c z) = some de := h
            cases e : numB x with
            | none =>
              rw [e] at h'
              cases h'
            | some c =>
              rw [e] at h'
              cases h'
              obtain ⟨q1, q2⟩ := numB_some e
              show ([("hand" : Str), numT c, "to", z]) = _
              rw [q2, num_back q1 (hl x (by simp)), hy]
          | [], _, _, q => exact absurd (.inl (by simp)) q
          | [_], _, _, q => exact absurd (.inl (by simp)) q
          | [_, _], _, _, q => exact absurd (.inl (by simp)) q
          | _ :: _ :: _ :: _ :: _, _, _, q => exact absurd (.inl (by simp)) q
      · rw [deedOf_oth _ h1 h2] at h
        cases e : r.mapM numB with
        | none =>
          rw [e] at h
          cases h
        | some ns =>
          rw [e] at h
          cases h
          show a :: (ns.map It2.i).map It2.T = _
          rw [List.map_map]
          have q := nums_back (fun y hy => hl y (List.mem_cons_of_mem _ hy)) e
          exact congrArg (a :: ·) q
theorem shp_shown {ws : List Str} (hl : ∀ z ∈ ws, z.length ≤ 500) {l : Letter} (h : Shp ws l) : shownL l = ws := by
  obtain ⟨n, af, gt, tz, rest, h⟩ := h
  obtain ⟨b1, b2, b3, ⟨b4, b5, b6, b7⟩, b8⟩ := letterB_parts h.ok
  have eq := h.eq
  have e1 : numT l.name.2.2 = n := by rw [h.n2, num_back h.n1 (hl n (by rw [eq]; simp))]
  have e2 : (if 0 < l.prev then (["after", numT l.prev] : List Str) else []) = af := by
    rcases h.af with ⟨q1, q2⟩ | ⟨n2, q1, q2, q3, q4⟩
    · rw [q1, if_neg (by omega)]
    · rw [q1, if_pos (by omega), q3, num_back q2 (hl n2 (by rw [eq, q1]; simp))]
  have e3 : (if 0 < l.gots.length then (["got"] : List Str) ++ l.gots.map nameT else []) = gt := by
    rcases h.gt with ⟨q1, q2⟩ | ⟨z, zs, q1, q2⟩
    · rw [q1, q2]
      rfl
    · have hlen := paired_len q2
      rw [q1, if_pos (by rw [hlen]; simp), names_back (fun y hy => hl y (by rw [eq, q1]; simp at hy ⊢; rcases hy with hy | hy <;> simp [hy])) q2]
      rfl
  have e4 : numT l.time ++ ":" = tz := by
    have hc : (cutC tz).length ≤ 500 := Nat.le_trans (cutS_length tz _ _) (hl tz (by rw [eq]; simp))
    rw [h.t2, num_back h.t1 hc]
    exact (colon_split h.col).symm
  have e5 : deedT l.deed = rest := deed_back (fun y hy => hl y (by rw [eq]; simp [hy])) h.deed b8
  unfold shownL
  rw [e1, e2, e3, e4, e5, eq]
  simp
/-! ### what is asked of what was read -/
theorem sd_str {A : PyData → Prop} {z : Str} (h : okS z = true) : SDs A (.str z) := .inl ⟨z, rfl, h⟩
theorem sd_int {A : PyData → Prop} (i : Int) : SDs A (.int i) := .inr (.inl ⟨i, rfl⟩)
theorem sd_tup {A : PyData → Prop} {xs : List PyData} (hl : xs.length ≤ 1000) (h : ∀ y ∈ xs, A y) : SDs A (.tuple xs) := .inr (.inr ⟨xs, rfl, hl, h⟩)
theorem sd_name {A : PyData → Prop} {p : Nm} (h : NmOk p) : SDs (SDs A) (nameD p) := sd_tup (by simp) fun y hy => by
  simp at hy
  rcases hy with rfl | rfl | rfl
  · exact sd_str h.1.ok
  · exact sd_str h.2.ok
  · exact sd_int _
theorem deed_items {d : Deed} (h : d.Ok) : ∀ y ∈ d.L, (∃ z, y = .str z ∧ okS z = true) ∨ ∃ i, y = .int i := by
  match d, h with
  | .say ws, h =>
    intro y hy
    rcases List.mem_cons.mp hy with rfl | hy
    · exact .inl ⟨_, rfl, by decide +kernel⟩
    · obtain ⟨z, hz, rfl⟩ := List.mem_map.mp hy
      exact .inl ⟨z, rfl, (h z hz).ok⟩
  | .hand c z, h =>
    intro y hy
    have hy' : y ∈ [PyData.str "hand", .int c, .str z] := hy
    simp at hy'
    rcases hy' with rfl | rfl | rfl
    · exact .inl ⟨_, rfl, by decide +kernel⟩
    · exact .inr ⟨_, rfl⟩
    · exact .inl ⟨_, rfl, Sm.ok h⟩
  | .oth none ns, h =>
    intro y hy
    obtain ⟨i, _, rfl⟩ := List.mem_map.mp (show y ∈ ns.map PyData.int from hy)
    exact .inr ⟨i, rfl⟩
  | .oth (some w) ns, h =>
    intro y hy
    rcases List.mem_cons.mp hy with rfl | hy
    · exact .inl ⟨w, rfl, h.1.ok⟩
    · obtain ⟨i, _, rfl⟩ := List.mem_map.mp hy
      exact .inr ⟨i, rfl⟩
theorem letter_sd {l : Letter} (h : l.Ok) : SD4 l.D := by
  refine sd_tup (by simp) fun y hy => ?_
  simp at hy
  rcases hy with rfl | rfl | rfl | rfl | rfl | rfl | rfl
  · exact sd_str h.name.1.ok
  · exact sd_str h.name.2.ok
  · exact sd_int _
  · exact sd_int _
  · refine sd_tup (by rw [List.length_map]; exact h.glen) fun y hy => ?_
    obtain ⟨g, hg, rfl⟩ := List.mem_map.mp hy
    exact sd_name (h.gots g hg)
  · exact sd_int _
  · refine sd_tup h.dlen fun y hy => ?_
    rcases deed_items h.deed y hy with ⟨z, rfl, hz⟩ | ⟨i, rfl⟩
    · exact sd_str hz
    · exact sd_int i
theorem bi_num {z : Str} (h : numOk z = true) (hl : z.length ≤ 500) : Bi (numVal z) := numVal_lt h hl (by decide)
theorem name_bi {z : Str} {p : Nm} (hl : z.length ≤ 500) (h : nameOf z = some p) : Bi p.2.2 := by
  obtain ⟨a, b, c, e, hc, rfl⟩ := nameOf_cases h
  have hcl : c.length ≤ 500 := by
    have := (split_mem (z := z) (y := ".") (p := c) dot_tl (by decide) (by rw [e]; simp)).1
    rw [len_tl] at hl ⊢
    omega
  exact bi_num hc hcl
theorem shp_ok {ws : List Str} (hw : ∀ z ∈ ws, GW z) (hn : ws.length ≤ 60) {l : Letter} (h : Shp ws l) : l.Ok ∧ l.Nums := by
  obtain ⟨n, af, gt, tz, rest, h⟩ := h
  have hs : ∀ z ∈ ws, Sm z := fun z hz => (hw z hz).sm
  have eq := h.eq
  obtain ⟨b1, b2, b3, ⟨b4, b5, b6, b7⟩, b8⟩ := letterB_parts h.ok
  have hg : ∀ g ∈ l.gots, NmOk g ∧ Bi g.2.2 := fun g hg => by
    rcases h.gt with ⟨q1, q2⟩ | ⟨z, zs, q1, q2⟩
    · rw [q2] at hg
      cases hg
    · obtain ⟨y, hy, e⟩ := mapM_mem q2 g hg
      have hyw : Sm y := hs y (by rw [eq, q1]; simp at hy ⊢; rcases hy with hy | hy <;> simp [hy])
      exact ⟨nameOf_ok hyw e, name_bi hyw.len e⟩
  obtain ⟨d1, d2⟩ := deedOf_ok (fun z hz => hs z (by rw [eq]; simp [hz])) h.deed
  have hrl : rest.length ≤ 60 := by
    have : ws.length = 5 + af.length + gt.length + rest.length := by
      rw [eq]
      simp only [List.length_cons, List.length_append]
      omega
    omega
  refine ⟨⟨⟨hs _ (by rw [eq]; simp), hs _ (by rw [eq]; simp)⟩, fun g hg' => (hg g hg').1, by omega, d1, by omega⟩, ⟨?_, ?_, ?_, fun g hg' => (hg g hg').2⟩⟩
  · rw [h.n2]
    exact bi_num h.n1 (hs n (by rw [eq]; simp)).len
  · rcases h.af with ⟨q1, q2⟩ | ⟨n2, q1, q2, q3, q4⟩
    · rw [q2]
      exact ⟨by decide, by decide +kernel⟩
    · rw [q3]
      exact bi_num q2 (hs n2 (by rw [eq, q1]; simp)).len
  · rw [h.t2]
    exact bi_num h.t1 (Nat.le_trans (cutS_length tz _ _) (hs tz (by rw [eq]; simp)).len)
theorem due_letter (ws : List Str) (z : Str) (hw : WOk 60 ws) (hz : wordsOf z = ws) : DueL z ws (dueM ws) := by
  rw [due_read hw.ok]
  cases h : readL ws with
  | none =>
    rintro y ⟨l, hl, _⟩
    rw [hz, h] at hl
    cases hl
  | some l =>
    have hsh := read_shp h
    have hshown := shp_shown (fun y hy => by have := (hw.ok y hy).len; omega) hsh
    obtain ⟨o1, o2⟩ := shp_ok hw.ok hw.hi hsh
    have hb : letterB l = true := by
      obtain ⟨_, _, _, _, _, q⟩ := hsh
      exact q.ok
    refine ⟨?_, ?_, letter_sd o1, ⟨o1, hb, o2, ?_⟩, ?_⟩
    · show ¬ readL (wordsOf z) = none
      rw [hz, h]
      exact fun q => (nomatch q)
    · rintro y ⟨l', hl', rfl⟩
      rw [hz, h] at hl'
      cases hl'
      rfl
    · intro y hy
      rw [hshown] at hy
      have := (hw.ok y hy).len
      omega
    · show Txt.join " " (shownL l) = _
      rw [hshown]
/-! ### drawn words -/
theorem gw_of {z : Str} (h0 : tl z ≠ []) (hl : (tl z).length ≤ 60) (hc : ∀ c ∈ tl z, 33 ≤ c ∧ c < 1000) : GW z :=
  ⟨by rw [len_tl]; exact hl, fun e => h0 (by rw [e]; rfl), (okS_iff z).mpr fun c hm => by have := hc c hm; omega, fun hm => by have := hc 32 hm; omega⟩
theorem word_tl {z : Str} (h : wordB z = true) : tl z ≠ [] ∧ (tl z).length ≤ 12 ∧ ∀ c ∈ tl z, 33 ≤ c ∧ c < 1000 := by
  obtain ⟨⟨h1, h2⟩, h3⟩ := (wordB_iff z).mp h
  exact ⟨fun e => by rw [e] at h1; exact absurd h1 (by decide), h2, fun c hc => by have := lowB_lt (h3 c hc); omega⟩
theorem gw_word {z : Str} (h : wordB z = true) : GW z := let ⟨h1, h2, h3⟩ := word_tl h; gw_of h1 (by omega) h3
theorem num_tl {i : Int} (h0 : 0 ≤ i) (h1 : i < 10 ^ 30) : tl (numT i) ≠ [] ∧ (tl (numT i)).length ≤ 30 ∧ ∀ c ∈ tl (numT i), 33 ≤ c ∧ c < 1000 := by
  rw [numT_tl h0]
  refine ⟨numL_ne _, numL_len (by decide) ?_, fun c hc => by have := numL_digits _ c hc; omega⟩
  have : (i.toNat : Int) < 10 ^ 30 := by rw [Int.toNat_of_nonneg h0]; exact h1
  exact_mod_cast this
theorem gw_num {i : Int} (h0 : 0 ≤ i) (h1 : i < 10 ^ 30) : GW (numT i) := let ⟨h1, h2, h3⟩ := num_tl h0 h1; gw_of h1 (by omega) h3
theorem gw_numc {i : Int} (h0 : 0 ≤ i) (h1 : i < 10 ^ 30) : GW (numT i ++ ":") := by
  obtain ⟨h1, h2, h3⟩ := num_tl h0 h1
  refine gw_of ?_ ?_ fun c hc => ?_
  · rw [tl_append, colon_tl]
    simp
  · rw [tl_append, colon_tl, List.length_append, List.length_singleton]
    omega
  · rw [tl_append, colon_tl] at hc
    rcases List.mem_append.mp hc with hc | hc
    · exact h3 c hc
    · rw [List.mem_singleton.mp hc]
      decide
theorem gw_name {p : Nm} (h : GoodN p) : GW (lawT p) := by
  obtain ⟨⟨hw1, hw2⟩, hn1, hn2⟩ := h
  obtain ⟨a1, a2, a3⟩ := word_tl hw1
  obtain ⟨b1, b2, b3⟩ := word_tl hw2
  obtain ⟨c1, c2, c3⟩ := num_tl (i := p.2.2) (by omega) hn2
  have e : tl (lawT p) = tl p.1 ++ ([46] ++ (tl p.2.1 ++ ([46] ++ tl (numT p.2.2)))) := by
    unfold lawT
    rw [join_eq, tl_join, dot_tl]
    rfl
  refine gw_of ?_ ?_ fun c hc => ?_
  · rw [e]
    simp
  · rw [e]
    simp only [List.length_append, List.length_singleton]
    omega
  · rw [e] at hc
    simp only [List.mem_append, List.mem_singleton] at hc
    rcases hc with hc | hc | hc | hc | hc
    · exact a3 c hc
    · omega
    · exact b3 c hc
    · omega
    · exact c3 c hc
theorem gw_it {a : It2} (h : GoodI a) : GW a.T := by
  cases a with
  | s z => exact gw_word h
  | i n => exact gw_num h.1 (by have := h.2; show n < 10 ^ 30; omega)
theorem gw_lit {z : Str} (h : (decide (z.length ≤ 60) && (!decide (z = "") && (okS z && !decide (32 ∈ tl z)))) = true) : GW z := gw_dec h
theorem drawn_letter (l : LL) (h : l.Good) : WOk 42 (lwords l) := by
  have l3 := lw3_len (l := l) h.glen h.deed.len
  have g1 : ∀ z ∈ lw1 l, GW z := fun z hz => by
    unfold lw1 at hz
    rcases List.mem_append.mp hz with hz | hz
    · simp at hz
      rcases hz with rfl | rfl | rfl
      · exact gw_word h.name.1.1
      · exact gw_word h.name.1.2
      · exact gw_num (by have := h.name.2.1; omega) h.name.2.2
    · split at hz
      · cases hz
      · simp at hz
        rcases hz with rfl | rfl
        · exact gw_lit (by decide +kernel)
        · exact gw_num h.prev.1 h.prev.2
  have g2 : ∀ z ∈ lw2 l, GW z := fun z hz => by
    unfold lw2 at hz
    split at hz
    · exact g1 z hz
    · rcases List.mem_append.mp hz with hz | hz
      · rcases List.mem_append.mp hz with hz | hz
        · exact g1 z hz
        · rw [List.mem_singleton.mp hz]
          exact gw_lit (by decide +kernel)
      · obtain ⟨g, hg, rfl⟩ := List.mem_map.mp hz
        exact gw_name (h.gots g hg)
  have g3 : ∀ z ∈ lw3 l, GW z := fun z hz => by
    unfold lw3 at hz
    rcases List.mem_append.mp hz with hz | hz
    · rcases List.mem_append.mp hz with hz | hz
      · exact g2 z hz
      · simp at hz
        rcases hz with rfl | rfl
        · exact gw_lit (by decide +kernel)
        · exact gw_numc h.time.1 h.time.2
    · obtain ⟨a, ha, rfl⟩ := List.mem_map.mp hz
      exact gw_it (h.deed.ok a ha)
  unfold lwords
  split
  · refine ⟨?_, ?_, fun z hz => ?_⟩
    · simp only [List.length_append, List.length_singleton]
      omega
    · simp only [List.length_append, List.length_singleton, List.length_take, List.length_drop]
      omega
    · simp only [List.mem_append, List.mem_singleton] at hz
      rcases hz with (hz | hz) | hz
      · exact g3 z (List.mem_of_mem_take hz)
      · rw [hz]
        exact gw_lit (by decide +kernel)
      · exact g3 z (List.mem_of_mem_drop hz)
  · exact ⟨by omega, by omega, g3⟩
theorem drawn_claim (z : Str) (ps : List Part) (h : CParts z ps) : WOk 42 (z :: ps.map lawP) := by
  refine ⟨by simp, ?_, fun y hy => ?_⟩
  · have := h.hi
    rw [List.length_cons, List.length_map]
    omega
  · rcases List.mem_cons.mp hy with rfl | hy
    · exact gw_word h.w
    · obtain ⟨p, hp, rfl⟩ := List.mem_map.mp hy
      have := h.ok p hp
      cases p with
      | nm g => exact gw_name this
      | nu i => exact gw_num this.1 this.2
end K84

/-! part K84PF -/
set_option maxHeartbeats 1000000
/-! K84PF: plain: claims. -/
namespace K84
open PySem TL L2
def partB (z s : Str) : Option Part := (partOf z s).bind fun t => if sortB t s = true then some t else none
theorem partB_name {z : Str} (hl : z.length ≤ 60) : partB z "name" = (namedB (Txt.split z ".")).map .nm := by
  unfold partB partOf
  rw [if_pos rfl]
  cases e : namedB (Txt.split z ".") with
  | none =>
    cases e2 : nameOf z with
    | none => rfl
    | some p =>
      show (if nameB p = true then some (Part.nm p) else none) = none
      refine if_neg fun q => ?_
      rw [(named_iff hl p).mpr ⟨e2, q⟩] at e
      cases e
  | some p =>
    obtain ⟨q1, q2⟩ := (named_iff hl p).mp e
    rw [q1]
    show (if nameB p = true then some (Part.nm p) else none) = _
    rw [if_pos q2]
    rfl
theorem partB_num {z s : Str} (hs : s ≠ "name") : partB z s = (numB z).bind fun i => if 0 ≤ i ∧ (s = "time" ∨ i ≤ 11) then some (.nu i) else none := by
  unfold partB partOf
  rw [if_neg hs]
  cases numB z with
  | none => rfl
  | some i =>
    show (if (decide (0 ≤ i) && (decide (s = "time") || decide (i ≤ 11))) = true then some (Part.nu i) else none) = if 0 ≤ i ∧ (s = "time" ∨ i ≤ 11) then some (Part.nu i) else none
    by_cases h : 0 ≤ i ∧ (s = "time" ∨ i ≤ 11)
    · rw [if_pos h, if_pos (by simpa using h)]
    · rw [if_neg h, if_neg (by simpa using h)]
theorem partB_clause (z : Str) : partB z "clause" = (wholeB z 0 11).map .nu := by
  have n1 : ("clause" : Str) ≠ "name" := by decide +kernel
  have n2 : ("clause" : Str) ≠ "time" := by decide +kernel
  rw [partB_num n1, whole_num]
  cases numB z with
  | none => rfl
  | some i =>
    show (if 0 ≤ i ∧ (("clause" : Str) = "time" ∨ i ≤ 11) then some (Part.nu i) else none) = (if 0 ≤ i ∧ i ≤ 11 then some i else none).map .nu
    by_cases h : 0 ≤ i ∧ i ≤ 11
    · rw [if_pos h, if_pos ⟨h.1, .inr h.2⟩]
      rfl
    · rw [if_neg h, if_neg fun q => h ⟨q.1, q.2.resolve_left n2⟩]
      rfl
theorem partB_time {z : Str} (hl : z.length ≤ 60) : partB z "time" = (wholeB z 0 (10 ^ 60)).map .nu := by
  have n1 : ("time" : Str) ≠ "name" := by decide +kernel
  rw [partB_num n1, whole60 hl]
  unfold numB
  by_cases h : numOk z = true
  · rw [if_pos h]
    show (if 0 ≤ numVal z ∧ (("time" : Str) = "time" ∨ numVal z ≤ 11) then some (Part.nu (numVal z)) else none) = _
    by_cases h2 : 0 ≤ numVal z
    · rw [if_pos ⟨h2, .inl rfl⟩, if_pos ⟨h, h2⟩]
      rfl
    · rw [if_neg fun q => h2 q.1, if_neg fun q => h2 q.2]
      rfl
  · rw [if_neg h, if_neg fun q => h q.1]
    rfl
theorem readC_cons (c : Str) (r : List Str) : readC (c :: r) = match shapes.find? (fun q => decide (q.1 = c)) with
    | none => none
    | some q => if r.length = q.2.length then (partsOf r q.2).bind fun ps => if claimB ⟨c, ps⟩ = true then some ⟨c, ps⟩ else none else none := rfl
theorem partsOf_nil : partsOf [] [] = some [] := rfl
theorem read1 {c s : Str} (h : shapes.find? (fun q => decide (q.1 = c)) = some (c, [s])) (x : Str) : readC [c, x] = (partB x s).map fun t => ⟨c, [(t, s)]⟩ := by
  rw [readC_cons, h]
  show (if 1 = 1 then (partsOf [x] [s]).bind fun ps => if claimB ⟨c, ps⟩ = true then some (⟨c, ps⟩ : Claim) else none else none) = _
  rw [if_pos rfl, partsOf_cons, partsOf_nil]
  unfold partB
  cases partOf x s with
  | none => rfl
  | some t =>
    show (if claimB ⟨c, [(t, s)]⟩ = true then some (⟨c, [(t, s)]⟩ : Claim) else none) = (if sortB t s = true then some t else none).map _
    have e : claimB ⟨c, [(t, s)]⟩ = sortB t s := by
      show (sortB t s && true) = _
      rw [Bool.and_true]
    rw [e]
    by_cases h : sortB t s = true
    · rw [if_pos h, if_pos h]
      rfl
    · rw [if_neg h, if_neg h]
      rfl
theorem read2 {c s u : Str} (h : shapes.find? (fun q => decide (q.1 = c)) = some (c, [s, u])) (x y : Str) : readC [c, x, y] = (partB x s).bind fun t => (partB y u).map fun v => ⟨c, [(t, s), (v, u)]⟩ := by
  rw [readC_cons, h]
  show (if 2 = 2 then (partsOf [x, y] [s, u]).bind fun ps => if claimB ⟨c, ps⟩ = true then some (⟨c, ps⟩ : Claim) else none else none) = _
  rw [if_pos rfl, partsOf_cons, partsOf_cons, partsOf_nil]
  unfold partB
  cases partOf x s with
  | none => rfl
  | some t =>
    cases partOf y u with
    | none =>
      show none = ((if sortB t s = true then some t else none).bind fun t => none)
      split <;> rfl
    | some v =>
      show (if claimB ⟨c, [(t, s), (v, u)]⟩ = true then some (⟨c, [(t, s), (v, u)]⟩ : Claim) else none) = ((if sortB t s = true then some t else none).bind fun t => (if sortB v u = true then some v else none).map fun v => ⟨c, [(t, s), (v, u)]⟩)
      have e : claimB ⟨c, [(t, s), (v, u)]⟩ = (sortB t s && sortB v u) := by
        show (sortB t s && (sortB v u && true)) = _
        rw [Bool.and_true]
      rw [e]
      cases h1 : sortB t s <;> cases h2 : sortB v u <;> rfl
theorem read3 {c s u w : Str} (h : shapes.find? (fun q => decide (q.1 = c)) = some (c, [s, u, w])) (x y z : Str) : readC [c, x, y, z] = (partB x s).bind fun t => (partB y u).bind fun v => (partB z w).map fun k => ⟨c, [(t, s), (v, u), (k, w)]⟩ := by
  rw [readC_cons, h]
  show (if 3 = 3 then (partsOf [x, y, z] [s, u, w]).bind fun ps => if claimB ⟨c, ps⟩ = true then some (⟨c, ps⟩ : Claim) else none else none) = _
  rw [if_pos rfl, partsOf_cons, partsOf_cons, partsOf_cons, partsOf_nil]
  unfold partB
  cases partOf x s with
  | none => rfl
  | some t =>
    cases partOf y u with
    | none =>
      show none = ((if sortB t s = true then some t else none).bind fun t => none)
      split <;> rfl
    | some v =>
      cases partOf z w with
      | none =>
        show none = ((if sortB t s = true then some t else none).bind fun t => (if sortB v u = true then some v else none).bind fun v => none)
        cases h1 : sortB t s <;> cases h2 : sortB v u <;> rfl
      | some k =>
        show (if claimB ⟨c, [(t, s), (v, u), (k, w)]⟩ = true then some (⟨c, [(t, s), (v, u), (k, w)]⟩ : Claim) else none) = ((if sortB t s = true then some t else none).bind fun t => (if sortB v u = true then some v else none).bind fun v => (if sortB k w = true then some k else none).map fun k => ⟨c, [(t, s), (v, u), (k, w)]⟩)
        have e : claimB ⟨c, [(t, s), (v, u), (k, w)]⟩ = (sortB t s && (sortB v u && sortB k w)) := by
          show (sortB t s && (sortB v u && (sortB k w && true))) = _
          rw [Bool.and_true]
        rw [e]
        cases h1 : sortB t s <;> cases h2 : sortB v u <;> cases h3 : sortB k w <;> rfl
end K84

/-! part K84PG -/
set_option maxHeartbeats 1000000
/-! K84PG: plain: claims, the law's own look. -/
namespace K84
open PySem TL L2
theorem cd_2 (w x : Str) : cd3 [w, x] = [optN (namedB (Txt.split x "."))] := by
  unfold cd3 cd2 cd1
  rw [if_neg (fun q => absurd q.2 (show ¬ (2 < 2) by decide)), if_neg (fun q => absurd q.2 (show ¬ (3 < 2) by decide)), if_neg (fun q => absurd q.2 (show ¬ (2 < 2) by decide))]
  rfl
theorem cd_3 (w x y : Str) : cd3 [w, x, y] = [optN (namedB (Txt.split x "."))] ++ (if w ∈ (["held", "kept", "late"] : List Str) then [optI (wholeB y 0 11)] else []) ++ (if w = "twin" then [optN (namedB (Txt.split y "."))] else []) := by
  unfold cd3 cd2 cd1
  rw [if_neg (c := ([w, x, y] : List Str).getD 0 "" = "held" ∧ 3 < ([w, x, y] : List Str).length) (fun q => absurd q.2 (show ¬ (3 < 3) by decide)), List.append_nil]
  have e1 : (if ([w, x, y] : List Str).getD 0 "" ∈ (["held", "kept", "late"] : List Str) ∧ 2 < ([w, x, y] : List Str).length then [optI (wholeB (([w, x, y] : List Str).getD 2 "") 0 11)] else []) = (if w ∈ (["held", "kept", "late"] : List Str) then [optI (wholeB y 0 11)] else []) := by
    by_cases h : w ∈ (["held", "kept", "late"] : List Str)
    · rw [if_pos h, if_pos ⟨h, (show 2 < 3 by decide)⟩]
      rfl
    · rw [if_neg h, if_neg fun q => h q.1]
  have e2 : (if ([w, x, y] : List Str).getD 0 "" = "twin" ∧ 2 < ([w, x, y] : List Str).length then [optN (namedB (Txt.split (([w, x, y] : List Str).getD 2 "") "."))] else []) = (if w = "twin" then [optN (namedB (Txt.split y "."))] else []) := by
    by_cases h : w = "twin"
    · rw [if_pos h, if_pos ⟨h, (show 2 < 3 by decide)⟩]
      rfl
    · rw [if_neg h, if_neg fun q => h q.1]
  rw [e1, e2]
  rfl
theorem cd_4 (w x y u : Str) : cd3 [w, x, y, u] = [optN (namedB (Txt.split x "."))] ++ (if w ∈ (["held", "kept", "late"] : List Str) then [optI (wholeB y 0 11)] else []) ++ (if w = "held" then [optI (wholeB u 0 (10 ^ 60))] else []) ++ (if w = "twin" then [optN (namedB (Txt.split y "."))] else []) := by
  unfold cd3 cd2 cd1
  have e1 : (if ([w, x, y, u] : List Str).getD 0 "" ∈ (["held", "kept", "late"] : List Str) ∧ 2 < ([w, x, y, u] : List Str).length then [optI (wholeB (([w, x, y, u] : List Str).getD 2 "") 0 11)] else []) = (if w ∈ (["held", "kept", "late"] : List Str) then [optI (wholeB y 0 11)] else []) := by
    by_cases h : w ∈ (["held", "kept", "late"] : List Str)
    · rw [if_pos h, if_pos ⟨h, (show 2 < 4 by decide)⟩]
      rfl
    · rw [if_neg h, if_neg fun q => h q.1]
  have e2 : (if ([w, x, y, u] : List Str).getD 0 "" = "held" ∧ 3 < ([w, x, y, u] : List Str).length then [optI (wholeB (([w, x, y, u] : List Str).getD 3 "") 0 (10 ^ 60))] else []) = (if w = "held" then [optI (wholeB u 0 (10 ^ 60))] else []) := by
    by_cases h : w = "held"
    · rw [if_pos h, if_pos ⟨h, (show 3 < 4 by decide)⟩]
      rfl
    · rw [if_neg h, if_neg fun q => h q.1]
  have e3 : (if ([w, x, y, u] : List Str).getD 0 "" = "twin" ∧ 2 < ([w, x, y, u] : List Str).length then [optN (namedB (Txt.split (([w, x, y, u] : List Str).getD 2 "") "."))] else []) = (if w = "twin" then [optN (namedB (Txt.split y "."))] else []) := by
    by_cases h : w = "twin"
    · rw [if_pos h, if_pos ⟨h, (show 2 < 4 by decide)⟩]
      rfl
    · rw [if_neg h, if_neg fun q => h q.1]
  rw [e1, e2, e3]
  rfl
theorem cdue_no {a : Str} {r : List Str} (h : manyOf a ≠ ((a :: r).length : Nat)) : claimDueD (a :: r) = .none := by
  unfold claimDueD
  split
  · rfl
  · exact if_pos (.inl h)
theorem cdue_yes {a : Str} {r : List Str} (h2 : 2 ≤ (a :: r).length) (h : manyOf a = ((a :: r).length : Nat)) : claimDueD (a :: r) = if (cd3 (a :: r)).any isNo = true then .none else .tuple (.str a :: cd3 (a :: r)) := by
  unfold claimDueD
  rw [if_neg (by omega)]
  show (if manyOf a ≠ ((a :: r).length : Nat) ∨ (cd3 (a :: r)).any isNo = true then _ else _) = _
  by_cases h3 : (cd3 (a :: r)).any isNo = true
  · rw [if_pos (.inr h3), if_pos h3]
  · rw [if_neg (fun q => q.elim (fun q => q h) h3), if_neg h3]
    rfl
theorem read_no {a : Str} {r ss : List Str} (h : shapes.find? (fun q => decide (q.1 = a)) = some (a, ss)) (hl : r.length ≠ ss.length) : readC (a :: r) = none := by
  rw [readC_cons, h]
  exact if_neg hl
/-- one name -/
theorem claim_1 {a : Str} (hm : manyOf a = 2) (hs : shapes.find? (fun q => decide (q.1 = a)) = some (a, (["name"] : List Str))) {r : List Str} (hl : ∀ z ∈ r, z.length ≤ 60) : claimDueD (a :: r) = optG Claim.D (readC (a :: r)) := by
  match r, hl with
  | [x], hl =>
    rw [cdue_yes (by simp) (by rw [hm]; rfl), cd_2, read1 hs, partB_name (hl x (by simp))]
    cases namedB (Txt.split x ".") <;> rfl
  | [], _ =>
    rw [cdue_no (by rw [hm]; simp), read_no hs (by simp)]
    rfl
  | x :: y :: r, _ =>
    rw [cdue_no (by rw [hm]; simp; omega), read_no hs (by simp)]
    rfl
theorem isNo_N (o : Option Nm) : isNo (optN o) = o.isNone := by cases o <;> rfl
theorem isNo_I (o : Option Int) : isNo (optI o) = o.isNone := by cases o <;> rfl
/-- a name and a clause -/
theorem claim_2 {a : Str} (hm : manyOf a = 3) (hk : a ∈ (["held", "kept", "late"] : List Str)) (ht : a ≠ "twin") (hs : shapes.find? (fun q => decide (q.1 = a)) = some (a, (["name", "clause"] : List Str))) {r : List Str} (hl : ∀ z ∈ r, z.length ≤ 60) : claimDueD (a :: r) = optG Claim.D (readC (a :: r)) := by
  match r, hl with
  | [x, y], hl =>
    rw [cdue_yes (by simp) (by rw [hm]; rfl), cd_3, if_pos hk, if_neg ht, read2 hs, partB_name (hl x (by simp)), partB_clause]
    cases namedB (Txt.split x ".") <;> cases wholeB y 0 11 <;> rfl
  | [], _ =>
    rw [cdue_no (by rw [hm]; simp), read_no hs (by simp)]
    rfl
  | [x], _ =>
    rw [cdue_no (by rw [hm]; simp), read_no hs (by simp)]
    rfl
  | x :: y :: z :: r, _ =>
    rw [cdue_no (by rw [hm]; simp; omega), read_no hs (by simp)]
    rfl
theorem claim_twin {r : List Str} (hl : ∀ z ∈ r, z.length ≤ 60) : claimDueD ("twin" :: r) = optG Claim.D (readC ("twin" :: r)) := by
  have hm : manyOf "twin" = 3 := by decide +kernel
  have hk : ¬ (("twin" : Str) ∈ (["held", "kept", "late"] : List Str)) := by decide +kernel
  have hs : shapes.find? (fun q => decide (q.1 = ("twin" : Str))) = some (("twin" : Str), (["name", "name"] : List Str)) := by decide +kernel
  match r, hl with
  | [x, y], hl =>
    rw [cdue_yes (by simp) (by rw [hm]; rfl), cd_3, if_neg hk, if_pos rfl, read2 hs, partB_name (hl x (by simp)), partB_name (hl y (by simp))]
    cases namedB (Txt.split x ".") <;> cases namedB (Txt.split y ".") <;> rfl
  | [], _ =>
    rw [cdue_no (by rw [hm]; simp), read_no hs (by simp)]
    rfl
  | [x], _ =>
    rw [cdue_no (by rw [hm]; simp), read_no hs (by simp)]
    rfl
  | x :: y :: z :: r, _ =>
    rw [cdue_no (by rw [hm]; simp; omega), read_no hs (by simp)]
    rfl
theorem claim_held {r : List Str} (hl : ∀ z ∈ r, z.length ≤ 60) : claimDueD ("held" :: r) = optG Claim.D (readC ("held" :: r)) := by
  have hm : manyOf "held" = 4 := by decide +kernel
  have hk : ("held" : Str) ∈ (["held", "kept", "late"] : List Str) := by decide +kernel
  have ht : ¬ (("held" : Str) = "twin") := by decide +kernel
  have hs : shapes.find? (fun q => decide (q.1 = ("held" : Str))) = some (("held" : Str), (["name", "clause", "time"] : List Str)) := by decide +kernel
  match r, hl with
  | [x, y, u], hl =>
    rw [cdue_yes (by simp) (by rw [hm]; rfl), cd_4, if_pos hk, if_pos rfl, if_neg ht, read3 hs, partB_name (hl x (by simp)), partB_clause, partB_time (hl u (by simp))]
    cases namedB (Txt.split x ".") <;> cases wholeB y 0 11 <;> cases wholeB u 0 (10 ^ 60) <;> rfl
  | [], _ =>
    rw [cdue_no (by rw [hm]; simp), read_no hs (by simp)]
    rfl
  | [x], _ =>
    rw [cdue_no (by rw [hm]; simp), read_no hs (by simp)]
    rfl
  | [x, y], _ =>
    rw [cdue_no (by rw [hm]; simp), read_no hs (by simp)]
    rfl
  | x :: y :: z :: u :: r, _ =>
    rw [cdue_no (by rw [hm]; simp; omega), read_no hs (by simp)]
    rfl
theorem claim_eq {ws : List Str} (hl : ∀ z ∈ ws, z.length ≤ 60) : claimDueD ws = optG Claim.D (readC ws) := by
  cases ws with
  | nil => rfl
  | cons a r =>
    have hl' : ∀ z ∈ r, z.length ≤ 60 := fun z hz => hl z (List.mem_cons_of_mem _ hz)
    by_cases h1 : a = "held"
    · rw [h1]
      exact claim_held hl'
    by_cases h2 : a = "kept"
    · rw [h2]
      exact claim_2 (by decide +kernel) (by decide +kernel) (by decide +kernel) (by decide +kernel) hl'
    by_cases h3 : a = "late"
    · rw [h3]
      exact claim_2 (by decide +kernel) (by decide +kernel) (by decide +kernel) (by decide +kernel) hl'
    by_cases h4 : a = "twin"
    · rw [h4]
      exact claim_twin hl'
    by_cases h5 : a = "ill"
    · rw [h5]
      exact claim_1 (by decide +kernel) (by decide +kernel) hl'
    by_cases h6 : a = "back"
    · rw [h6]
      exact claim_1 (by decide +kernel) (by decide +kernel) hl'
    by_cases h7 : a = "loose"
    · rw [h7]
      exact claim_1 (by decide +kernel) (by decide +kernel) hl'
    by_cases h8 : a = "behind"
    · rw [h8]
      exact claim_1 (by decide +kernel) (by decide +kernel) hl'
    by_cases h9 : a = "ahead"
    · rw [h9]
      exact claim_1 (by decide +kernel) (by decide +kernel) hl'
    have hm : manyOf a = 0 := by
      unfold manyOf
      have e : many.find? (fun p => decide (p.1 = a)) = none := by
        rw [List.find?_eq_none]
        intro p hp
        have hp' : p = (("held" : Str), (4 : Int)) ∨ p = (("kept" : Str), (3 : Int)) ∨ p = (("late" : Str), (3 : Int)) ∨ p = (("twin" : Str), (3 : Int)) ∨ p = (("ill" : Str), (2 : Int)) ∨ p = (("back" : Str), (2 : Int)) ∨ p = (("loose" : Str), (2 : Int)) ∨ p = (("behind" : Str), (2 : Int)) ∨ p = (("ahead" : Str), (2 : Int)) := by simpa [many] using hp
        rcases hp' with rfl | rfl | rfl | rfl | rfl | rfl | rfl | rfl | rfl <;> simp only [decide_eq_true_eq] <;> intro q <;> simp_all
      rw [e]
      rfl
    have hs : shapes.find? (fun q => decide (q.1 = a)) = none := by
      rw [List.find?_eq_none]
      intro p hp
      have hp' : p.1 = "held" ∨ p.1 = "kept" ∨ p.1 = "late" ∨ p.1 = "twin" ∨ p.1 = "ill" ∨ p.1 = "back" ∨ p.1 = "loose" ∨ p.1 = "behind" ∨ p.1 = "ahead" := by
        have e : ∀ p ∈ shapes, p.1 = "held" ∨ p.1 = "kept" ∨ p.1 = "late" ∨ p.1 = "twin" ∨ p.1 = "ill" ∨ p.1 = "back" ∨ p.1 = "loose" ∨ p.1 = "behind" ∨ p.1 = "ahead" := by decide +kernel
        exact e p hp
      simp only [decide_eq_true_eq]
      intro q
      rw [q] at hp'
      rcases hp' with h | h | h | h | h | h | h | h | h
      · exact h1 h
      · exact h2 h
      · exact h3 h
      · exact h4 h
      · exact h5 h
      · exact h6 h
      · exact h7 h
      · exact h8 h
      · exact h9 h
    rw [cdue_no (by rw [hm]; simp; omega), readC_cons, hs]
    rfl
/-! ### what is shown -/
theorem parts_back : ∀ {r ss : List Str} {ps : List (Part × Str)}, partsOf r ss = some ps → r.length = ss.length → (∀ z ∈ r, Sm z) → (ps.map fun p => partT p.1) = r ∧ ∀ p ∈ ps, p.1.Num
  | [], [], ps, h, _, _ => by
    cases h
    exact ⟨rfl, fun p hp => (nomatch hp)⟩
  | z :: r, s :: ss, ps, h, hl, hm => by
    have hz := hm z List.mem_cons_self
    rw [partsOf_cons] at h
    cases ht : partOf z s with
    | none =>
      rw [ht] at h
      cases h
    | some t =>
      rw [ht] at h
      cases hr : partsOf r ss with
      | none =>
        rw [hr] at h
        cases h
      | some qs =>
        rw [hr] at h
        cases h
        obtain ⟨h1, h2⟩ := parts_back hr (by simpa using hl) fun y hy => hm y (List.mem_cons_of_mem _ hy)
        have hp : partT t = z ∧ t.Num := by
          unfold partOf at ht
          split at ht
          · cases hn : nameOf z with
            | none =>
              rw [hn] at ht
              cases ht
            | some g =>
              rw [hn] at ht
              cases ht
              exact ⟨nameT_back hz.len hn, name_bi hz.len hn⟩
          · cases hn : numB z with
            | none =>
              rw [hn] at ht
              cases ht
            | some i =>
              rw [hn] at ht
              cases ht
              obtain ⟨q1, q2⟩ := numB_some hn
              subst q2
              exact ⟨num_back q1 hz.len, bi_num q1 hz.len⟩
        refine ⟨?_, fun p hp' => ?_⟩
        · rw [List.map_cons, h1]
          show partT t :: r = _
          rw [hp.1]
        · rcases List.mem_cons.mp hp' with rfl | hp'
          · exact hp.2
          · exact h2 p hp'
theorem due_claim (ws : List Str) (z : Str) (hw : WOk 60 ws) (hz : wordsOf z = ws) : ∃ o, claimDueD ws = optG Claim.D o ∧ DueC z ws o := by
  refine ⟨readC ws, claim_eq fun y hy => (hw.ok y hy).len, ?_⟩
  have hsm : ∀ y ∈ ws, Sm y := fun y hy => (hw.ok y hy).sm
  cases h : readC ws with
  | none =>
    rintro y ⟨l, hl, _⟩
    rw [hz, h] at hl
    cases hl
  | some c =>
    obtain ⟨a, r, rfl⟩ : ∃ a r, ws = a :: r := by
      cases ws with
      | nil => cases h
      | cons a r => exact ⟨a, r, rfl⟩
    have h0 := h
    rw [readC_cons] at h
    split at h
    · cases h
    · rename_i q hq
      split at h
      · rename_i hl
        obtain ⟨ps, h1, h2⟩ := Option.bind_eq_some_iff.mp h
        split at h2
        · rename_i hb
          cases h2
          have hqm : q ∈ shapes := List.mem_of_find?_eq_some hq
          have hqa : q.1 = a := by
            have := List.find?_some hq
            exact of_decide_eq_true this
          have hmr : ∀ y ∈ r, Sm y := fun y hy => hsm y (List.mem_cons_of_mem _ hy)
          obtain ⟨o1, o2⟩ := partsOf_ok h1 hl hmr
          obtain ⟨o3, o4⟩ := parts_back h1 hl hmr
          have hok : Claim.Ok ⟨a, ps⟩ := ⟨by
            show (a, ps.map (·.2)) ∈ shapes
            rw [o1, ← hqa]
            exact hqm, o2⟩
          have hshown : shownC ⟨a, ps⟩ = a :: r := by
            show a :: (ps.map fun p => partT p.1) = _
            rw [o3]
          have hpl : ps.length ≤ 3 := by
            have e := paired_len (f := fun p : Str × Str => (partOf p.1 p.2).map fun t => (t, p.2)) h1
            have e2 := (shapes_ok hqm).2.2.1
            rw [e, List.length_zip]
            omega
          refine ⟨?_, ?_, ?_, ⟨hok, o4, ?_⟩, ?_⟩
          · show ¬ readC (wordsOf z) = none
            rw [hz, h0]
            exact fun q => (nomatch q)
          · rintro y ⟨c', hc', rfl⟩
            rw [hz, h0] at hc'
            cases hc'
            rfl
          · refine sd_tup (by rw [List.length_cons, List.length_map]; show ps.length + 1 ≤ 1000; omega) fun y hy => ?_
            rcases List.mem_cons.mp hy with rfl | hy
            · exact sd_str (hsm a List.mem_cons_self).ok
            · obtain ⟨p, hp, rfl⟩ := List.mem_map.mp hy
              have hpo := (o2 p hp).1
              cases hp1 : p.1 with
              | nm g =>
                rw [hp1] at hpo
                exact sd_name hpo
              | nu i => exact sd_int i
          · intro y hy
            rw [hshown] at hy
            have := (hw.ok y hy).len
            omega
          · show Txt.join " " (shownC ⟨a, ps⟩) = _
            rw [hshown]
        · cases h2
      · cases h
theorem plainK : PlainK := ⟨fun ws l z n hw h e => words_text hw.ok h e, due_letter, due_claim, drawn_letter, drawn_claim⟩
end K84

/-! part K84END -/
set_option maxHeartbeats 0
/-! K84END: the end. -/
namespace K84
open PySem PySem.Spec PyProof.Rows L2
theorem walk_w {l : PySem.W.OpenLaw} {n k : Nat} {q : Program} {loose : List Str} {XP : (Str → Option Value) → Heap → Prop} {YP : World → Heap → Prop} {d : DefRec} {x : Str}
    (h1 : l.most = some n) (h2 : n ≤ sizeLine) (h3 : d.params.defaults = []) (h4 : Room k callerA)
    (h5 : ∀ (w : World) (mg : Str → Option Value) (fa : Addr) (h : Heap), YP w h → h.Ns mainGlobals mg → mg d.name = some (.ref fa) →
      ∃ (K : PySem.W.Frag) (fd : FuncData) (sp : Sp), K.In h ∧ (∀ (s : Shared) (u : Value), BindsTo s fd ⟨[u], []⟩ [(x, u)]) ∧
        (∀ (H : Hp) (a : Addr) (ns : List Int), ns.length ≤ n → SqL K H a (ns.map V.int) → sp [.ref a] H (fun v _ => v = .bl true) fun _ _ _ => False) ∧
        ∀ base : Heap, K.In base → base.Ns mainGlobals mg → FnOk l.prog w K mg base (L2.CX l.prog w) k fa fd [x] sp) :
    PySem.W.WalkO q loose XP YP l.row.toRowW d [] (fun f vs => PySem.call f vs) := by
  refine Att.attach_call h1 h3 fun w sA sB mg mb fa o pm cd doc a vs ns G Y ho hd hcd hmg hobj hints hlen hg => ?_
  obtain ⟨K, fd, sp, KX, hb, hsp, hF⟩ := h5 w mg fa _ Y G.T.g hmg
  refine law_call KX G.T.g G.T.b G.T.builtins G.T.nolimit hg hobj hints (Nat.le_trans hlen h2) h4 hF hb (fun H _ hS => hsp H a ns hlen hS) fun H e s' hz => ?_
  obtain ⟨_, _, _, _, _, _, _, _, _, _, _, _, z⟩ := hz
  exact z
theorem law_at {w : World} {mg : Str → Option Value} {f : Addr} {h : Heap} (Y : hk.says w h) (G : h.Ns mainGlobals mg) (hm : mg ("law" : Str) = some (.ref f)) :
    ∃ (K : PySem.W.Frag) (fd : FuncData) (sp : Sp), K.In h ∧ (∀ (s : Shared) (u : Value), BindsTo s fd ⟨[u], []⟩ [(("_law_script" : Str), u)]) ∧
      (∀ (H : Hp) (a : Addr) (ns : List Int), ns.length ≤ 63 → SqL K H a (ns.map V.int) → sp [.ref a] H (fun v _ => v = .bl true) fun _ _ _ => False) ∧
      ∀ base : Heap, K.In base → base.Ns mainGlobals mg → FnOk R.prog w K mg base (L2.CX R.prog w) 9 f fd [("_law_script" : Str)] sp := by
  obtain ⟨K, KX, c⟩ := Y
  have W : Wd w K mg := ⟨⟨h, KX, G, c⟩⟩
  obtain ⟨fd, F⟩ := W.fd_law
  have e := hm.symm.trans W.g_law
  cases e
  have b := FunD.bindsA (ps := [("_law_script" : Str)]) F fun _ _ _ _ _ _ us hl => match us, hl with | [_], _ => rfl
  refine ⟨K, fd, sp_law K, KX, fun s v => b s [v] rfl, fun H a ns hl hS => ?_, fun base _ _ => ok_law W plainK F⟩
  refine ⟨(a, ns), H, fun _ => False, by show ns.length ≤ 1000; omega, .cons rfl .nil, ⟨fun _ _ q => q, fun _ z => z.elim, fun _ z => z.elim, hS⟩, fun d v G' H' hd g rd => ?_, fun z => z.elim⟩
  subst hd
  cases rd
  rfl
end K84
open PySem PySem.W PySem.Calls PyProof.Rows
theorem PySem.Challenge.cw_holdword_k84_whole_any_words_holds : PySem.Challenge.rw_holdword_k84_whole_any_words.Holds := by
  refine K84.head_all (K84.walk_w (l := PySem.Challenge.rw_holdword_k84_whole_any_words) (n := 63) (k := 9) (x := "_law_script") rfl (by decide) K84.top_defaults ⟨rfl, by decide, by decide⟩ ?_)
  intro w mg fa h Y G hm
  rw [K84.top_name] at hm
  exact K84.law_at Y G hm
